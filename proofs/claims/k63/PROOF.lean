import PyProof.Rows.All
import Wide.All
import OpenK.AllK
import Wide.FinOn
import HandS.ForMost
import HandS.Deep
import HandS.Wide
import HandS.Walk
import HandS.SortInts
import HandS.Flow
import HandS.Style
import HandS.TupAny
import HandS.IsInst
import KE.SortData
import PyProof.ReprReads
import KE.LtSeq
import HandS.SetFor
import KE.KSortedM
import KE.GoesEnum
import KE.GoesMore
import KE.GoesZip
import HandS.Words
import HandS.Defaults
import HandS.Ends
import HandS.HeadHook1
import HandS.HeadHook2
import HandS.Head0
import HandS.Head1
import HandS.Head2
import HandS.HeadEnd
import PySem.Challenge.RW_raingauged_k63_whole_records_and_odds_of
import KE.KStateDown
import Lean
section
set_option Elab.async false
set_option linter.all false
set_option maxRecDepth 100000
set_option maxHeartbeats 4000000
/-! A small language of pure programs over PySem.PyData: a tree of its own, its evaluator, and the check that a tree of the model's is that tree. -/
namespace RG
open PySem

/-! ### what a run gives: a value, no answer, or a draw of a number below n -/
inductive T (α : Type) where
  | ret (a : α)
  | fail
  | draw (n : Int) (k : Int → T α)
namespace T
variable {α β γ : Type}
def bind : T α → (α → T β) → T β
  | .ret a, f => f a
  | .fail, _ => .fail
  | .draw n k, f => .draw n fun d => bind (k d) f
/-- on every way: at most b draws, and at the end Q of the value and of the draws that are left -/
def wp : T α → Nat → (α → Nat → Prop) → Prop
  | .ret a, b, Q => Q a b
  | .fail, _, _ => False
  | .draw n k, b, Q => (0 < n ∧ n < 1073741824 ∧ 0 < b) ∧ ∀ d, 0 ≤ d → d < n → wp (k d) (b - 1) Q
theorem wp_bind {f : α → T β} {Q : β → Nat → Prop} : ∀ {t : T α} {b : Nat}, (t.bind f).wp b Q ↔ t.wp b fun a b' => (f a).wp b' Q
  | .ret a, _ => Iff.rfl
  | .fail, _ => Iff.rfl
  | .draw n k, b => by
    simp only [bind, wp]
    exact and_congr Iff.rfl (forall_congr' fun d => forall_congr' fun _ => forall_congr' fun _ => wp_bind)
theorem wp_mono {Q Q' : α → Nat → Prop} (h : ∀ a b, Q a b → Q' a b) : ∀ {t : T α} {b : Nat}, t.wp b Q → t.wp b Q'
  | .ret a, b => h a b
  | .fail, _ => id
  | .draw n k, b => fun ⟨p, q⟩ => ⟨p, fun d h0 h1 => wp_mono h (q d h0 h1)⟩
/-- with the draws that are left -/
theorem wp_le {Q : α → Nat → Prop} : ∀ {t : T α} {b : Nat}, t.wp b Q → t.wp b fun a b' => b' ≤ b ∧ Q a b'
  | .ret a, b => fun h => ⟨Nat.le_refl _, h⟩
  | .fail, _ => id
  | .draw n k, b => fun ⟨p, q⟩ => ⟨p, fun d h0 h1 => wp_mono (fun a b' ⟨h, q⟩ => ⟨Nat.le_trans h (Nat.sub_le _ _), q⟩) (wp_le (q d h0 h1))⟩
theorem bind_ret (a : α) (f : α → T β) : (T.ret a).bind f = f a := rfl
theorem bind_fail (f : α → T β) : (T.fail : T α).bind f = .fail := rfl
theorem bind_assoc (f : α → T β) (g : β → T γ) : ∀ t : T α, (t.bind f).bind g = t.bind fun a => (f a).bind g
  | .ret a => rfl
  | .fail => rfl
  | .draw n k => by
    simp only [bind]
    congr 1
    funext d
    exact bind_assoc f g (k d)
theorem bind_eta : ∀ t : T α, t.bind .ret = t
  | .ret a => rfl
  | .fail => rfl
  | .draw n k => by
    simp only [bind]
    congr 1
    funext d
    exact bind_eta (k d)
def isRet : T α → Bool
  | .ret _ => true
  | _ => false
def chk (b : Bool) (t : T α) : T α := if b then t else .fail
end T

/-! ### the tree -/
inductive Tg where
  | v (i : Nat) | nil | cons (a b : Tg) | tup (t : Tg)
inductive E where
  | v (i : Nat)
  | int (k : Int) | bl (b : Bool) | non | str (s : Str)
  | glob (x : Str) (k : Int)
  | neg (a : E) | vnot (a : E)
  | bin (op : Operator) (a b : E)
  | cmp (op : CmpOp) (a b : E)
  | isN (a : E) | notN (a : E)
  | chn (o1 o2 : CmpOp) (a b c : E)
  | vbo (op : BoolOp) (as : E)
  | ife (c a b : E)
  | tup (as : E) | lst (as : E)
  | nil | cons (a as : E)
  | sub (a i : E)
  | sli (a lo hi : E) | no
  | rev (a : E)
  | isi (ty : String) (a : E)
  | fn (f : Str) (as : E)
  | met (m : Str) (o as : E)
  | call (f : Str) (as : E)
  | comp (own : List (Str × Nat)) (tg : Tg) (it c elt : E)
  | tbo (op : BoolOp) (as : E)
  | tnot (a : E) | tval (a : E) | tcmp (op : CmpOp) (a b : E) | tchn (o1 o2 : CmpOp) (a b c : E) | tyes
  | tisN (a : E) | tnotN (a : E)
  | ival (a : E) | irng (as : E) | ienum (as : E) | izip (as : E)

/-- a slot: nothing known, a value, a list or dict that this name alone holds, the draws' state -/
inductive Sl where
  | no | va (d : PyData) | ow (d : PyData) | st
abbrev Rho := List Sl

/-! ### operations on data -/
def small (n : Nat) : Bool := decide (n ≤ 16777216)
def truth : PyData → T Bool
  | .none => .ret false
  | .bool b => .ret b
  | .int i => .ret (i != 0)
  | .str x => .chk (small x.length) (.ret (x.length != 0))
  | .list xs => .ret (!xs.isEmpty)
  | .tuple xs => .ret (!xs.isEmpty)
  | .dict _ => .fail
def mulOk (i j : Int) : Bool := (decide (i.natAbs < 18446744073709551616) || decide (j.natAbs < 18446744073709551616)) || (decide (i.natAbs < 2 ^ 9000) && decide (j.natAbs < 2 ^ 9000))
def divOk (i j : Int) : Bool := (decide (j ≠ 0) && decide (j.natAbs < 1073741824)) || (decide (0 < j) && decide (i.natAbs < 2 ^ 9000) && decide (j.natAbs < 2 ^ 9000))
def rep (xs : List PyData) (k : Int) : List PyData := (List.replicate k.toNat xs).flatten
def binOp : Operator → PyData → PyData → T PyData
  | .Add, .int i, .int j => .ret (.int (i + j))
  | .Add, .str x, .str y => .chk (small (x.length + y.length)) (.ret (.str (x ++ y)))
  | .Add, .list x, .list y => .chk (small (x.length + y.length)) (.ret (.list (x ++ y)))
  | .Add, .tuple x, .tuple y => .chk (small (x.length + y.length)) (.ret (.tuple (x ++ y)))
  | .Sub, .int i, .int j => .ret (.int (i - j))
  | .Mult, .int i, .int j => .chk (mulOk i j) (.ret (.int (i * j)))
  | .Mult, .list x, .int k => .chk (small (x.length * k.toNat) && decide (k.natAbs < 9223372036854775808)) (.ret (.list (rep x k)))
  | .FloorDiv, .int i, .int j => .chk (divOk i j) (.ret (.int (i.fdiv j)))
  | .Mod, .int i, .int j => .chk (decide (j ≠ 0)) (.ret (.int (i.fmod j)))
  | _, _, _ => .fail
def scalD : PyData → PyData → Bool
  | .none, .none => true | .none, .int _ => true | .int _, .none => true | .none, .bool _ => true | .bool _, .none => true | .none, .str _ => true | .str _, .none => true
  | .int _, .int _ => true | .bool _, .bool _ => true | .str _, .str _ => true
  | .int _, .str _ => true | .str _, .int _ => true | .bool _, .str _ => true | .str _, .bool _ => true
  | _, _ => false
def okEq (x y : PyData) : Bool := scalD x y || (SeqAt.shaped x && SeqAt.shaped y)
def itemsOf : PyData → Option (List PyData)
  | .list xs => some xs
  | .tuple xs => some xs
  | _ => none
def cmpOp : CmpOp → PyData → PyData → T Bool
  | .Eq, x, y => .chk (okEq x y) (.ret (PyData.eqv x y))
  | .NotEq, x, y => .chk (okEq x y) (.ret (!PyData.eqv x y))
  | .Lt, .int i, .int j => .ret (decide (i < j))
  | .LtE, .int i, .int j => .ret (decide (i ≤ j))
  | .Gt, .int i, .int j => .ret (decide (j < i))
  | .GtE, .int i, .int j => .ret (decide (j ≤ i))
  | _, _, _ => .fail
/-- an item by its place, from the end for one below 0 -/
def atD (xs : List PyData) (i : Int) : T PyData := match L2.atI xs i with
  | some d => .ret d
  | none => .fail
def subOp : PyData → PyData → T PyData
  | .list xs, .int i => atD xs i
  | .tuple xs, .int i => atD xs i
  | _, _ => .fail
def cutD (xs : List PyData) (lo hi : Option Int) : List PyData := (xs.drop (HT.sIx xs.length 0 lo)).take (HT.sIx xs.length xs.length hi - HT.sIx xs.length 0 lo)
def sliOp (d : PyData) (lo hi : Option Int) : T PyData := match d with
  | .list xs => .ret (.list (cutD xs lo hi))
  | .tuple xs => .ret (.tuple (cutD xs lo hi))
  | _ => .fail
def revOp : PyData → T PyData
  | .tuple xs => .ret (.tuple xs.reverse)
  | .list xs => .ret (.list xs.reverse)
  | _ => .fail
def isiOp (ty : String) : PyData → T Bool
  | .int _ => .ret (ty == "int")
  | .bool _ => .ret (ty == "bool" || ty == "int")
  | .str _ => .ret (ty == "str")
  | .none => .ret (ty == "NoneType")
  | .list _ => .ret (ty == "list")
  | .tuple _ => .ret (ty == "tuple")
  | .dict _ => .fail
def rok (d : PyData) : Bool := d.showable && !d.hasDict && decide (d.depth ≤ 64) && small d.shown.length
def asInts : List PyData → Option (List Int)
  | [] => some []
  | .int i :: r => (asInts r).map (i :: ·)
  | _ :: _ => none
def asBools : List PyData → Option (List Bool)
  | [] => some []
  | .bool i :: r => (asBools r).map (i :: ·)
  | _ :: _ => none
def fnLen : List PyData → T PyData
  | [.list xs] => .ret (.int xs.length)
  | [.tuple xs] => .ret (.int xs.length)
  | [.str x] => .chk (small x.length) (.ret (.int x.length))
  | _ => .fail
def fnAbs : List PyData → T PyData
  | [.int i] => .ret (.int (if i < 0 then -i else i))
  | _ => .fail
def fnSum : List PyData → T PyData
  | [.list xs] => match asInts xs with
    | some ns => .ret (.int ns.sum)
    | none => .fail
  | _ => .fail
def fnTuple : List PyData → T PyData
  | [.list xs] => .ret (.tuple xs)
  | [.tuple xs] => .ret (.tuple xs)
  | _ => .fail
def fnAll : List PyData → T PyData
  | [.list xs] => match asBools xs with
    | some bs => .ret (.bool (bs.all id))
    | none => .fail
  | _ => .fail
def sortI (ns : List Int) : List Int := ns.mergeSort fun a b => decide (a ≤ b)
def fnSorted : List PyData → T PyData
  | [.list xs] => match asInts xs with
    | some ns => .ret (.list ((sortI ns).map .int))
    | none => .fail
  | [.tuple xs] => match asInts xs with
    | some ns => .ret (.list ((sortI ns).map .int))
    | none => .fail
  | _ => .fail
def fnRepr : List PyData → T PyData
  | [d] => .chk (rok d) (.ret (.str d.shown))
  | _ => .fail
def fnOp (f : Str) : List PyData → T PyData :=
  if f = "len" then fnLen
  else if f = "abs" then fnAbs
  else if f = "sum" then fnSum
  else if f = "tuple" then fnTuple
  else if f = "all" then fnAll
  else if f = "sorted" then fnSorted
  else if f = "repr" then fnRepr
  else fun _ => .fail
def metCount : PyData → List PyData → T PyData
  | .tuple xs, [.int i] => match asInts xs with
    | some ns => .ret (.int (ns.count i : Nat))
    | none => .fail
  | _, _ => .fail
def metOp (m : Str) : PyData → List PyData → T PyData :=
  if m = "count" then metCount
  else fun _ _ => .fail
def rngItems (lo : Int) (n : Nat) : List PyData := (List.range n).map fun (i : Nat) => .int (lo + (i : Int))
def bnd (i : Int) : Bool := decide (-4611686018427387904 ≤ i) && decide (i < 4611686018427387904)
def rngOp : List PyData → T (List PyData)
  | [.int n] => .chk (bnd n && small n.toNat) (.ret (rngItems 0 n.toNat))
  | [.int a, .int b] => .chk (bnd a && bnd b && small (b - a).toNat) (.ret (rngItems a (b - a).toNat))
  | _ => .fail
def itOp (d : PyData) : T (List PyData) := match d with
  | .list xs => .ret xs
  | .tuple xs => .ret xs
  | _ => .fail
def enumFrom (k : Nat) : List PyData → List PyData
  | [] => []
  | x :: xs => .tuple [.int (k : Int), x] :: enumFrom (k + 1) xs
def enumOp : List PyData → T (List PyData)
  | [.list xs] => .ret (enumFrom 0 xs)
  | [.tuple xs] => .ret (enumFrom 0 xs)
  | _ => .fail
def zipOp : List PyData → T (List PyData)
  | [.list xs, .list ys] => .ret (List.zipWith (fun x y => .tuple [x, y]) xs ys)
  | [.tuple xs, .tuple ys] => .ret (List.zipWith (fun x y => .tuple [x, y]) xs ys)
  | _ => .fail

/-! ### the evaluator -/
def getV (ρ : Rho) (i : Nat) : T PyData := match ρ[i]? with
  | some (.va d) => .ret d
  | _ => .fail
def getR (ρ : Rho) (i : Nat) : T PyData := match ρ[i]? with
  | some (.va d) => .ret d
  | some (.ow d) => .ret d
  | _ => .fail
def getS (ρ : Rho) (i : Nat) : T Sl := match ρ[i]? with
  | some (.va d) => .ret (.va d)
  | some .st => .ret .st
  | _ => .fail
def rdOf (a : E) (r : T PyData) (ρ : Rho) : T PyData := match a with
  | .v i => getR ρ i
  | _ => r
def slOf (a : E) (r : T PyData) (ρ : Rho) : T Sl := match a with
  | .v i => getS ρ i
  | _ => r.bind fun d => .ret (.va d)
/-- a value stored by a target -/
def asgT : Tg → PyData → Rho → T Rho
  | .v i, d, ρ => .ret (ρ.set i (.va d))
  | .tup t, .tuple ds, ρ => asgL t ds ρ
  | _, _, _ => .fail
where asgL : Tg → List PyData → Rho → T Rho
  | .nil, [], ρ => .ret ρ
  | .cons a b, d :: ds, ρ => (asgT a d ρ).bind fun ρ' => asgL b ds ρ'
  | _, _, _ => .fail
def wipeR (ρ : Rho) : List Nat → Rho
  | [] => ρ
  | v :: vs => (wipeR ρ vs).set v .no
/-- a comprehension over items -/
def lcG (f : PyData → T (Option PyData)) : List PyData → T (List PyData)
  | [] => .ret []
  | d :: ds => (f d).bind fun o => (lcG f ds).bind fun r => .ret (match o with
    | some x => x :: r
    | none => r)
def plOf : List Sl → T (List PyData)
  | [] => .ret []
  | .va d :: r => (plOf r).bind fun ds => .ret (d :: ds)
  | _ :: _ => .fail
def intOf : PyData → T (Option Int)
  | .int i => .ret (some i)
  | _ => .fail
abbrev Calls := Str → List Sl → T PyData
mutual
def ev (Φ : Calls) : E → Rho → T PyData
  | .v i, ρ => getV ρ i
  | .int k, _ => .ret (.int k)
  | .bl b, _ => .ret (.bool b)
  | .non, _ => .ret .none
  | .str s, _ => .ret (.str s)
  | .glob _ k, _ => .ret (.int k)
  | .neg a, ρ => (ev Φ a ρ).bind fun
    | .int i => .ret (.int (-i))
    | _ => .fail
  | .vnot a, ρ => (ev Φ a ρ).bind fun
    | .bool b => .ret (.bool (!b))
    | _ => .fail
  | .bin op a b, ρ => (rdOf a (ev Φ a ρ) ρ).bind fun x => (rdOf b (ev Φ b ρ) ρ).bind fun y => binOp op x y
  | .cmp op a b, ρ => (rdOf a (ev Φ a ρ) ρ).bind fun x => (rdOf b (ev Φ b ρ) ρ).bind fun y => (cmpOp op x y).bind fun k => .ret (.bool k)
  | .isN a, ρ => (rdOf a (ev Φ a ρ) ρ).bind fun
    | .none => .ret (.bool true)
    | _ => .ret (.bool false)
  | .notN a, ρ => (rdOf a (ev Φ a ρ) ρ).bind fun
    | .none => .ret (.bool false)
    | _ => .ret (.bool true)
  | .chn o1 o2 a b c, ρ => (rdOf a (ev Φ a ρ) ρ).bind fun x => (rdOf b (ev Φ b ρ) ρ).bind fun y => (cmpOp o1 x y).bind fun k => if k then (rdOf c (ev Φ c ρ) ρ).bind fun z => (cmpOp o2 y z).bind fun k' => .ret (.bool k') else .ret (.bool false)
  | .vbo op as, ρ => evV Φ op as ρ
  | .ife c a b, ρ => (evT Φ c ρ).bind fun k => if k then ev Φ a ρ else ev Φ b ρ
  | .tup as, ρ => (evC Φ as ρ).bind fun xs => (plOf xs).bind fun ds => .chk (small ds.length) (.ret (.tuple ds))
  | .lst as, ρ => (evC Φ as ρ).bind fun xs => (plOf xs).bind fun ds => .chk (small ds.length) (.ret (.list ds))
  | .sub a i, ρ => (rdOf a (ev Φ a ρ) ρ).bind fun x => (rdOf i (ev Φ i ρ) ρ).bind fun y => subOp x y
  | .sli a lo hi, ρ => (rdOf a (ev Φ a ρ) ρ).bind fun x => (evO Φ lo ρ).bind fun l => (evO Φ hi ρ).bind fun h => sliOp x l h
  | .rev a, ρ => (rdOf a (ev Φ a ρ) ρ).bind fun x => revOp x
  | .isi ty a, ρ => (rdOf a (ev Φ a ρ) ρ).bind fun x => (isiOp ty x).bind fun k => .ret (.bool k)
  | .fn f as, ρ => (evA Φ as ρ).bind fun ds => fnOp f ds
  | .met m o as, ρ => (rdOf o (ev Φ o ρ) ρ).bind fun x => (evA Φ as ρ).bind fun ds => metOp m x ds
  | .call f as, ρ => (evC Φ as ρ).bind fun xs => Φ f xs
  | .comp own tg it c elt, ρ => (evI Φ it ρ).bind fun ds => (lcG (fun d => (asgT tg d (wipeR ρ (own.map (·.2)))).bind fun ρ' => (evT Φ c ρ').bind fun k => if k then (ev Φ elt ρ').bind fun y => .ret (some y) else .ret none) ds).bind fun ys => .ret (.list ys)
  | _, _ => .fail
def evT (Φ : Calls) : E → Rho → T Bool
  | .tyes, _ => .ret true
  | .tbo op as, ρ => evB Φ op as ρ
  | .tnot a, ρ => (evT Φ a ρ).bind fun k => .ret (!k)
  | .tval a, ρ => (rdOf a (ev Φ a ρ) ρ).bind truth
  | .tcmp op a b, ρ => (rdOf a (ev Φ a ρ) ρ).bind fun x => (rdOf b (ev Φ b ρ) ρ).bind fun y => cmpOp op x y
  | .tisN a, ρ => (rdOf a (ev Φ a ρ) ρ).bind fun
    | .none => .ret true
    | _ => .ret false
  | .tnotN a, ρ => (rdOf a (ev Φ a ρ) ρ).bind fun
    | .none => .ret false
    | _ => .ret true
  | .tchn o1 o2 a b c, ρ => (rdOf a (ev Φ a ρ) ρ).bind fun x => (rdOf b (ev Φ b ρ) ρ).bind fun y => (cmpOp o1 x y).bind fun k => if k then (rdOf c (ev Φ c ρ) ρ).bind fun z => cmpOp o2 y z else .ret false
  | _, _ => .fail
def evB (Φ : Calls) (op : BoolOp) : E → Rho → T Bool
  | .cons a as, ρ => (evT Φ a ρ).bind fun k => match as with
    | .nil => .ret k
    | _ => match op with
      | .And => if k then evB Φ op as ρ else .ret false
      | .Or => if k then .ret true else evB Φ op as ρ
  | _, _ => .fail
def evV (Φ : Calls) (op : BoolOp) : E → Rho → T PyData
  | .cons a as, ρ => (ev Φ a ρ).bind fun x => match as with
    | .nil => .ret x
    | _ => match op, x with
      | .And, .bool k => if k then evV Φ op as ρ else .ret (.bool false)
      | .Or, .bool k => if k then .ret (.bool true) else evV Φ op as ρ
      | _, _ => .fail
  | _, _ => .fail
def evA (Φ : Calls) : E → Rho → T (List PyData)
  | .nil, _ => .ret []
  | .cons a as, ρ => (rdOf a (ev Φ a ρ) ρ).bind fun x => (evA Φ as ρ).bind fun xs => .ret (x :: xs)
  | _, _ => .fail
def evC (Φ : Calls) : E → Rho → T (List Sl)
  | .nil, _ => .ret []
  | .cons a as, ρ => (slOf a (ev Φ a ρ) ρ).bind fun x => (evC Φ as ρ).bind fun xs => .ret (x :: xs)
  | _, _ => .fail
def evO (Φ : Calls) : E → Rho → T (Option Int)
  | .no, _ => .ret none
  | .cons a .no, ρ => (ev Φ a ρ).bind intOf
  | _, _ => .fail
def evI (Φ : Calls) : E → Rho → T (List PyData)
  | .ival a, ρ => (rdOf a (ev Φ a ρ) ρ).bind itOp
  | .irng as, ρ => (evA Φ as ρ).bind rngOp
  | .ienum as, ρ => (evA Φ as ρ).bind enumOp
  | .izip as, ρ => (evA Φ as ρ).bind zipOp
  | _, _ => .fail
end

/-! ### statements -/
inductive Fl where
  | nx | rt (d : PyData) | bk | ct
inductive Sx where
  | nil | cons (s r : Sx)
  | asg (i : Nat) (own : Bool) (e : E)
  | asgT (tg : Tg) (e : E)
  | asgP (ts : List (Nat × Bool)) (es : E)
  | set (i : Nat) (ix e : E)
  | aug (i : Nat) (op : Operator) (e : E)
  | app (i : Nat) (e : E)
  | exe (e : E)
  | ite (c : E) (a b : Sx)
  | whl (c : E) (b : Sx)
  | for_ (tg : Tg) (it : E) (b : Sx)
  | ret (e : E) | retN | brk | cnt | pas | rai
  | dem (i : Nat) | kil (is : List Nat)
/-- the value of such an expression is a new list -/
def isFr : E → Bool
  | .lst _ => true
  | .comp .. => true
  | .bin .Add _ _ => true
  | .bin .Mult _ _ => true
  | .sli _ _ _ => true
  | .fn f _ => f = "sorted" || f = "list"
  | _ => false
def frs : E → List Bool
  | .cons a as => isFr a :: frs as
  | _ => []
def ownOf (fr : Bool) (d : PyData) : T Sl := if fr then match d with
    | .list _ => .ret (.ow d)
    | _ => .fail
  else .fail
def setP : List (Nat × Bool) → List Bool → List Sl → Rho → T Rho
  | [], [], [], ρ => .ret ρ
  | (i, true) :: ts, f :: fs, .va d :: xs, ρ => (ownOf f d).bind fun s => setP ts fs xs (ρ.set i s)
  | (i, false) :: ts, _ :: fs, .va d :: xs, ρ => setP ts fs xs (ρ.set i (.va d))
  | _, _, _, _ => .fail
def notOw (ρ : Rho) (a : E) : Bool := match a with
  | .v i => match ρ[i]? with
    | some (.ow _) => false
    | _ => true
  | _ => true
def notOwA (ρ : Rho) : E → Bool
  | .cons a as => notOw ρ a && notOwA ρ as
  | _ => true
def plainI (ρ : Rho) : E → Bool
  | .ival a => notOw ρ a
  | .ienum as => notOwA ρ as
  | .izip as => notOwA ρ as
  | _ => true
def forG (f : PyData → Rho → T (Fl × Rho)) : List PyData → Rho → T (Fl × Rho)
  | [], ρ => .ret (.nx, ρ)
  | d :: ds, ρ => (f d ρ).bind fun p => match p.1 with
    | .nx => forG f ds p.2
    | .ct => forG f ds p.2
    | .bk => .ret (.nx, p.2)
    | .rt v => .ret (.rt v, p.2)
def whG (c : Rho → T Bool) (f : Rho → T (Fl × Rho)) : Nat → Rho → T (Fl × Rho)
  | 0, _ => .fail
  | n + 1, ρ => (c ρ).bind fun k => if k then (f ρ).bind fun p => match p.1 with
      | .nx => whG c f n p.2
      | .ct => whG c f n p.2
      | .bk => .ret (.nx, p.2)
      | .rt v => .ret (.rt v, p.2)
    else .ret (.nx, ρ)
def augOp : Operator → PyData → PyData → T PyData
  | .Add, .int i, .int j => .ret (.int (i + j))
  | .Sub, .int i, .int j => .ret (.int (i - j))
  | .Mult, .int i, .int j => .chk (decide (i.natAbs < 18446744073709551616) || decide (j.natAbs < 18446744073709551616)) (.ret (.int (i * j)))
  | _, _, _ => .fail
def whFuel : Nat := 100000
def getO (ρ : Rho) (i : Nat) : T (List PyData) := match ρ[i]? with
  | some (.ow (.list xs)) => .ret xs
  | _ => .fail
def retV (e : E) (r : T PyData) (ρ : Rho) : T PyData := rdOf e r ρ
def setAt (xs : List PyData) (d : PyData) : PyData → T (List PyData)
  | .int k => match L2.ixN xs.length k with
    | some j => .ret (xs.set j d)
    | none => .fail
  | _ => .fail
def ex (Φ : Calls) : Sx → Rho → T (Fl × Rho)
  | .nil, ρ => .ret (.nx, ρ)
  | .cons s r, ρ => (ex Φ s ρ).bind fun p => match p.1 with
    | .nx => ex Φ r p.2
    | f => .ret (f, p.2)
  | .asg i own e, ρ => (ev Φ e ρ).bind fun d => if own then (ownOf (isFr e) d).bind fun s => .ret (.nx, ρ.set i s) else .ret (.nx, ρ.set i (.va d))
  | .asgT tg e, ρ => (ev Φ e ρ).bind fun d => (asgT tg d ρ).bind fun ρ' => .ret (.nx, ρ')
  | .asgP ts es, ρ => (evC Φ es ρ).bind fun xs => (setP ts (frs es) xs ρ).bind fun ρ' => .ret (.nx, ρ')
  | .set i ix e, ρ => (ev Φ e ρ).bind fun d => (getO ρ i).bind fun xs => (rdOf ix (ev Φ ix ρ) ρ).bind fun k => (setAt xs d k).bind fun ys => .ret (.nx, ρ.set i (.ow (.list ys)))
  | .aug i op e, ρ => (getV ρ i).bind fun x => (rdOf e (ev Φ e ρ) ρ).bind fun y => (augOp op x y).bind fun z => .ret (.nx, ρ.set i (.va z))
  | .app i e, ρ => (getO ρ i).bind fun xs => (ev Φ e ρ).bind fun d => .chk (decide (xs.length < 16777216)) (.ret (.nx, ρ.set i (.ow (.list (xs ++ [d])))))
  | .exe e, ρ => (ev Φ e ρ).bind fun _ => .ret (.nx, ρ)
  | .ite c a b, ρ => (evT Φ c ρ).bind fun k => if k then ex Φ a ρ else ex Φ b ρ
  | .whl c b, ρ => whG (evT Φ c) (ex Φ b) whFuel ρ
  | .for_ tg it b, ρ => .chk (plainI ρ it) ((evI Φ it ρ).bind fun ds => forG (fun d ρ => (asgT tg d ρ).bind fun ρ' => ex Φ b ρ') ds ρ)
  | .ret e, ρ => (retV e (ev Φ e ρ) ρ).bind fun d => .ret (.rt d, ρ)
  | .retN, ρ => .ret (.rt .none, ρ)
  | .brk, ρ => .ret (.bk, ρ)
  | .cnt, ρ => .ret (.ct, ρ)
  | .pas, ρ => .ret (.nx, ρ)
  | .rai, _ => .fail
  | .dem i, ρ => match ρ[i]? with
    | some (.ow d) => .ret (.nx, ρ.set i (.va d))
    | _ => .ret (.nx, ρ)
  | .kil is, ρ => .ret (.nx, wipeR ρ is)

/-! ### a def, the table, calls -/
structure Fd where
  name : Str
  ps : List Str
  N : List Str
  body : Sx
def start (F : Fd) (xs : List Sl) : Rho := xs ++ List.replicate (F.N.length - xs.length) .no
def outV : Fl × Rho → T PyData
  | (.rt d, _) => .ret d
  | (.nx, _) => .ret .none
  | _ => .fail
def runF (Φ : Calls) (F : Fd) (xs : List Sl) : T PyData := .chk (xs.length == F.ps.length) ((ex Φ F.body (start F xs)).bind outV)
def drawF : List Sl → T PyData
  | [.st, .va (.int m)] => .draw m fun d => .ret (.int d)
  | _ => .fail
def callF (tab : List Fd) : Nat → Calls
  | 0 => fun _ _ => .fail
  | n + 1 => fun f xs => if f = "_law_draw" then drawF xs else match tab.find? (fun F => F.name == f) with
    | some F => runF (callF tab n) F xs
    | none => .fail

/-! ### is a tree of the model's this tree? -/
structure Tb where
  fs : List Str
  gs : List (Str × Int)
  bs : List Str
def noStar : Expr → Bool
  | .Starred .. => false
  | _ => true
def noSlice : Expr → Bool
  | .Slice .. => false
  | _ => true
def noCall0 : Expr → Bool
  | .Call (.Name ..) [] [] _ => false
  | _ => true
def plainTest : Expr → Bool
  | .UnaryOp .Not _ _ => false
  | .BoolOp .. => false
  | .IfExp .. => false
  | .Compare .. => false
  | _ => true
def visB (N : List Str) (sc : Scope) (x : Str) (i : Nat) : Bool :=
  N[i]? == some x && (sc.names.lookup x == some .local || sc.names.lookup x == some .cell || sc.names.lookup x == some .free) && x != "__debug__" && x != "__classdict__"
def locB (N : List Str) (sc : Scope) (x : Str) (i : Nat) : Bool := N[i]? == some x && (sc.names.lookup x == some .local || sc.names.lookup x == some .cell)
def glB (sc : Scope) (x : Str) : Bool := sc.names.lookup x == some .globalImplicit && x != "__debug__" && x != "__name__"
def fnTy : List Str := ["tuple"]
def fnB : List Str := ["len", "abs", "sum", "all", "sorted", "repr"]
def tys : List String := ["int", "bool", "str", "tuple"]
def noMarks (op : CmpOp) (b : Expr) : Bool := !behindInMarks op b
def isTyes : E → Bool
  | .tyes => true
  | _ => false
def mTg (N : List Str) (sc : Scope) : Tg → Expr → Bool
  | .v i, e => match e with
    | .Name x _ => locB N sc x i
    | _ => false
  | .tup t, e => match e with
    | .Tuple es _ _ => mTgs t es
    | _ => false
  | _, _ => false
where mTgs : Tg → List Expr → Bool
  | .nil, es => match es with
    | [] => true
    | _ => false
  | .cons a b, es => match es with
    | x :: r => noStar x && mTg N sc a x && mTgs b r
    | [] => false
  | _, _ => false
/-- the places that a target stores at are among vs -/
def tgIn (vs : List Nat) : Tg → Bool
  | .v i => vs.contains i
  | .nil => true
  | .cons a b => tgIn vs a && tgIn vs b
  | .tup t => tgIn vs t
mutual
def mE (tb : Tb) (N : List Str) (sc : Scope) : E → Expr → Bool
  | .v i, e => match e with
    | .Name x _ => visB N sc x i
    | _ => false
  | .int k, e => match e with
    | .Constant (.int j) _ _ => j == k
    | _ => false
  | .bl k, e => match e with
    | .Constant (.bool j) _ _ => j == k
    | _ => false
  | .non, e => match e with
    | .Constant .none _ _ => true
    | _ => false
  | .str k, e => match e with
    | .Constant (.str j) _ _ => j == k
    | _ => false
  | .glob x k, e => match e with
    | .Name y _ => y == x && glB sc x && tb.gs.contains (x, k)
    | _ => false
  | .neg a, e => match e with
    | .UnaryOp .USub x _ => mE tb N sc a x
    | _ => false
  | .vnot a, e => match e with
    | .UnaryOp .Not x _ => mE tb N sc a x
    | _ => false
  | .bin op a b, e => match e with
    | .BinOp l o r _ => o == op && mE tb N sc a l && mE tb N sc b r
    | _ => false
  | .cmp op a b, e => match e with
    | .Compare l [o] [r] _ => o == op && noMarks o r && mE tb N sc a l && mE tb N sc b r
    | _ => false
  | .isN a, e => match e with
    | .Compare l [.Is] [.Constant .none _ _] _ => mE tb N sc a l
    | _ => false
  | .notN a, e => match e with
    | .Compare l [.IsNot] [.Constant .none _ _] _ => mE tb N sc a l
    | _ => false
  | .chn o1 o2 a b c, e => match e with
    | .Compare l [p1, p2] [m, r] _ => p1 == o1 && p2 == o2 && !lastMarks [p1, p2] [m, r] && mE tb N sc a l && mE tb N sc b m && mE tb N sc c r
    | _ => false
  | .vbo op as, e => match e with
    | .BoolOp o vs _ => o == op && mV tb N sc as vs
    | _ => false
  | .ife c a b, e => match e with
    | .IfExp t x y _ => mT tb N sc c t && mE tb N sc a x && mE tb N sc b y
    | _ => false
  | .tup as, e => match e with
    | .Tuple es _ _ => mA tb N sc as es
    | _ => false
  | .lst as, e => match e with
    | .List es _ => mA tb N sc as es
    | _ => false
  | .sub a i, e => match e with
    | .Subscript x y _ => noSlice y && noSlice x && mE tb N sc a x && mE tb N sc i y
    | _ => false
  | .sli a lo hi, e => match e with
    | .Subscript x (.Slice l h none _) _ => mE tb N sc a x && mO tb N sc lo l && mO tb N sc hi h
    | _ => false
  | .rev a, e => match e with
    | .Subscript x (.Slice none none (some (.UnaryOp .USub (.Constant (.int 1) _ _) _)) _) _ => mE tb N sc a x
    | _ => false
  | .isi ty a, e => match e with
    | .Call (.Name f _) [x, .Name t _] [] _ => f == "isinstance" && glB sc f && tb.bs.contains f && t == Str.ofString ty && tys.contains ty && glB sc t && tb.bs.contains t && mE tb N sc a x && noStar x
    | _ => false
  | .fn f as, e => match e with
    | .Call (.Name g _) (x :: xs) [] _ => g == f && glB sc g && tb.bs.contains g && (fnTy.contains g || fnB.contains g) && mA tb N sc as (x :: xs)
    | _ => false
  | .met m o as, e => match e with
    | .Call (.Attribute x a apos) (y :: ys) [] cpos => m == "count" && a == m && apos.endLine == cpos.line && noCall0 x && mE tb N sc o x && mA tb N sc as (y :: ys) && decide (ys.length < 20)
    | _ => false
  | .call f as, e => match e with
    | .Call (.Name g _) (x :: xs) [] _ => g == f && glB sc g && tb.fs.contains g && mA tb N sc as (x :: xs)
    | _ => false
  | .comp own tg it c elt, e => match e with
    | .ListComp el [⟨t, i, ifs, 0⟩] scope _ => L2.blkC N sc scope own && mTg N scope tg t && tgIn (own.map (·.2)) tg && mI tb N sc it t i && (match ifs with
      | [] => isTyes c
      | [t] => mT tb N (L2.relS scope sc) c t
      | _ => false) && mE tb N (L2.relS scope sc) elt el
    | _ => false
  | _, _ => false
def mT (tb : Tb) (N : List Str) (sc : Scope) : E → Expr → Bool
  | .tbo op as, e => match e with
    | .BoolOp o vs _ => o == op && mB tb N sc as vs
    | _ => false
  | .tnot a, e => match e with
    | .UnaryOp .Not x _ => mT tb N sc a x
    | _ => false
  | .tval a, e => plainTest e && mE tb N sc a e
  | .tcmp op a b, e => match e with
    | .Compare l [o] [r] _ => o == op && noMarks o r && mE tb N sc a l && mE tb N sc b r
    | _ => false
  | .tisN a, e => match e with
    | .Compare l [.Is] [.Constant .none _ _] _ => mE tb N sc a l
    | _ => false
  | .tnotN a, e => match e with
    | .Compare l [.IsNot] [.Constant .none _ _] _ => mE tb N sc a l
    | _ => false
  | .tchn o1 o2 a b c, e => match e with
    | .Compare l [p1, p2] [m, r] _ => p1 == o1 && p2 == o2 && !lastMarks [p1, p2] [m, r] && mE tb N sc a l && mE tb N sc b m && mE tb N sc c r
    | _ => false
  | _, _ => false
def mB (tb : Tb) (N : List Str) (sc : Scope) : E → List Expr → Bool
  | .cons a as, vs => match vs with
    | x :: r => mT tb N sc a x && (match as with
      | .nil => r.isEmpty
      | _ => mB tb N sc as r)
    | [] => false
  | _, _ => false
def mV (tb : Tb) (N : List Str) (sc : Scope) : E → List Expr → Bool
  | .cons a as, vs => match vs with
    | x :: r => mE tb N sc a x && (match as with
      | .nil => r.isEmpty
      | _ => mV tb N sc as r)
    | [] => false
  | _, _ => false
def mA (tb : Tb) (N : List Str) (sc : Scope) : E → List Expr → Bool
  | .nil, es => es.isEmpty
  | .cons a as, es => match es with
    | x :: r => noStar x && mE tb N sc a x && mA tb N sc as r
    | [] => false
  | _, _ => false
def mO (tb : Tb) (N : List Str) (sc : Scope) : E → Option Expr → Bool
  | .no, e => e.isNone
  | .cons a as, e => match as, e with
    | .no, some x => mE tb N sc a x
    | _, _ => false
  | _, _ => false
def mI (tb : Tb) (N : List Str) (sc : Scope) : E → Expr → Expr → Bool
  | .ival a, _, e => (match e with
    | .Set .. => false
    | _ => true) && mE tb N sc a e
  | .irng as, _, e => match e with
    | .Call (.Name g _) (x :: xs) [] _ => g == "range" && glB sc g && tb.bs.contains g && (xs.length == 0 || xs.length == 1) && mA tb N sc as (x :: xs)
    | _ => false
  | .ienum as, t, e => match t, e with
    | .Tuple .., .Call (.Name g _) [x] [] _ => g == "enumerate" && glB sc g && tb.bs.contains g && mA tb N sc as [x]
    | _, _ => false
  | .izip as, t, e => match t, e with
    | .Tuple .., .Call (.Name g _) [x, y] [] _ => g == "zip" && glB sc g && tb.bs.contains g && mA tb N sc as [x, y]
    | _, _ => false
  | _, _, _ => false
end
/-! ### statements -/
def isList : Expr → Bool
  | .List .. => true
  | _ => false
def nameOf : Expr → Option (Str × Pos)
  | .Name x p => some (x, p)
  | _ => none
def namesB (N : List Str) (sc : Scope) : List (Nat × Bool) → List Expr → Bool
  | [], [] => true
  | (i, _) :: is, .Name x _ :: es => locB N sc x i && namesB N sc is es
  | _, _ => false
/-- the stores of (a, b) = (x, y) come from the right -/
def locNames (sc : Scope) (line : Nat) (ts : List Expr) : List Str := ts.filterMap fun
    | .Name id pos => if sc.names.lookup id == some .local && pos.line == line then some id else none
    | _ => none
def fewB (ts vs : List Expr) : Bool := (ts.length == 2 || ts.length == 3) && vs.length == ts.length && vs.all noStar
def swB (sc : Scope) (ts vs : List Expr) : Bool :=
  let names := locNames sc ((ts.head?.map (·.pos.line)).getD 0) ts
  fewB ts vs && names.length == ts.length && names.eraseDups.length == names.length && !vs.all (foldedForSure 8) && !vs.all (constantsAlone 8)
def nsB (sc : Scope) (ts vs : List Expr) : Bool :=
  let names := locNames sc ((ts.head?.map (·.pos.line)).getD 0) ts
  fewB ts vs && (names.length != ts.length || names.eraseDups.length != names.length || vs.all (foldedForSure 8))
def comB : Expr → Bool
  | .ListComp .. => true
  | .SetComp .. => true
  | .DictComp .. => true
  | _ => false
mutual
def mS (tb : Tb) (N : List Str) (sc : Scope) : Sx → Stmt → Bool
  | .asg i _ e, s => match s with
    | .Assign [.Name x _] v _ => locB N sc x i && mE tb N sc e v
    | _ => false
  | .asgT tg e, s => match s with
    | .Assign [.Tuple ts k p] v _ => !comB v && (match v with
      | .Tuple .. => false
      | _ => true) && mTg N sc tg (.Tuple ts k p) && mE tb N sc e v
    | _ => false
  | .asgP tis es, s => match s with
    | .Assign [.Tuple ts _ _] (.Tuple vs _ _) _ => namesB N sc tis ts && decide (tis.map (·.1)).Nodup && mA tb N sc es vs && (swB sc ts vs || nsB sc ts vs)
    | _ => false
  | .set i ix e, s => match s with
    | .Assign [.Subscript (.Name x _) y _] v _ => visB N sc x i && noSlice y && !comB v && mE tb N sc ix y && mE tb N sc e v
    | _ => false
  | .aug i op e, s => match s with
    | .AugAssign (.Name x _) o v _ => o == op && locB N sc x i && visB N sc x i && mE tb N sc e v
    | _ => false
  | .app i e, s => match s with
    | .Expr (.Call (.Attribute (.Name x _) a apos) [y] [] cpos) _ => a == "append" && apos.endLine == cpos.line && visB N sc x i && noStar y && mE tb N sc e y
    | _ => false
  | .exe e, s => match s with
    | .Expr v _ => !comB v && mE tb N sc e v
    | _ => false
  | .ite c a b, s => match s with
    | .If t x y _ => mT tb N sc c t && mSs tb N sc a x && mSs tb N sc b y
    | _ => false
  | .whl c b, s => match s with
    | .While t x [] _ => mT tb N sc c t && mSs tb N sc b x
    | _ => false
  | .for_ tg it b, s => match s with
    | .For t i x [] _ => mTg N sc tg t && mI tb N sc it t i && mSs tb N sc b x
    | _ => false
  | .ret e, s => match s with
    | .Return (some v) _ => mE tb N sc e v
    | _ => false
  | .retN, s => match s with
    | .Return none _ => true
    | _ => false
  | .brk, s => match s with
    | .Break _ => true
    | _ => false
  | .cnt, s => match s with
    | .Continue _ => true
    | _ => false
  | .pas, s => match s with
    | .Pass _ => true
    | _ => false
  | .rai, s => match s with
    | .Raise .. => true
    | _ => false
  | _, _ => false
def mSs (tb : Tb) (N : List Str) (sc : Scope) : Sx → List Stmt → Bool
  | .nil, ss => ss.isEmpty
  | .cons s r, ss => match s with
    | .dem _ => mSs tb N sc r ss
    | .kil _ => mSs tb N sc r ss
    | _ => match ss with
      | t :: ts => mS tb N sc s t && mSs tb N sc r ts
      | [] => false
  | _, _ => false
end
end RG
end

section
set_option Elab.async false
set_option linter.all false
set_option maxRecDepth 100000
set_option maxHeartbeats 4000000
/-! Data in the abstract heap: Dn, what is kept, the slots. -/
namespace RG
open PySem PySem.Spec L2

abbrev Ads := Addr → Prop
mutual
/-- v stands for d in the heap H; no list or tuple of it lies at an address of B -/
inductive Dn (B : Ads) (H : Hp) : V → PyData → Prop where
  | non : Dn B H .non .none
  | bl (b : Bool) : Dn B H (.bl b) (.bool b)
  | int (i : Int) : Dn B H (.int i) (.int i)
  | str (x : Str) : Dn B H (.str x) (.str x)
  | tup {a : Addr} {o : Obj} {xs : List V} {ds : List PyData} : H a = some (.frz o (.tup xs)) → o.dict = none → ¬ B a → ds.length ≤ 16777216 → DnL B H xs ds → Dn B H (.ref a) (.tuple ds)
  | lst {a : Addr} {xs : List V} {ds : List PyData} : H a = some (.lst xs) → ¬ B a → ds.length ≤ 16777216 → DnL B H xs ds → Dn B H (.ref a) (.list ds)
inductive DnL (B : Ads) (H : Hp) : List V → List PyData → Prop where
  | nil : DnL B H [] []
  | cons {v : V} {d : PyData} {vs : List V} {ds : List PyData} : Dn B H v d → DnL B H vs ds → DnL B H (v :: vs) (d :: ds)
end
/-- the same, the object itself may lie in B -/
inductive DnT (S B : Ads) (H : Hp) : V → PyData → Prop where
  | of {v : V} {d : PyData} : Dn B H v d → DnT S B H v d
  | own {a : Addr} {xs : List V} {ds : List PyData} : H a = some (.lst xs) → ¬ S a → ds.length ≤ 16777216 → DnL B H xs ds → DnT S B H (.ref a) (.list ds)
section
variable {S B B' : Ads} {H H' : Hp} {v : V} {d : PyData} {vs : List V} {ds : List PyData}
mutual
theorem Dn.imp (h : ∀ a o, H a = some o → ¬ B a → H' a = some o ∧ ¬ B' a) : ∀ {v : V} {d : PyData}, Dn B H v d → Dn B' H' v d
  | _, _, .non => .non
  | _, _, .bl b => .bl b
  | _, _, .int i => .int i
  | _, _, .str x => .str x
  | _, _, .tup e k n z l => .tup (h _ _ e n).1 k (h _ _ e n).2 z (DnL.imp h l)
  | _, _, .lst e n z l => .lst (h _ _ e n).1 (h _ _ e n).2 z (DnL.imp h l)
theorem DnL.imp (h : ∀ a o, H a = some o → ¬ B a → H' a = some o ∧ ¬ B' a) : ∀ {vs : List V} {ds : List PyData}, DnL B H vs ds → DnL B' H' vs ds
  | _, _, .nil => .nil
  | _, _, .cons a b => .cons (Dn.imp h a) (DnL.imp h b)
end
theorem DnL.length : ∀ {vs : List V} {ds : List PyData}, DnL B H vs ds → vs.length = ds.length
  | _, _, .nil => rfl
  | _, _, .cons _ b => by rw [List.length_cons, List.length_cons, DnL.length b]
theorem DnL.get : ∀ {vs : List V} {ds : List PyData} {i : Nat} {d : PyData}, DnL B H vs ds → ds[i]? = some d → ∃ v, vs[i]? = some v ∧ Dn B H v d
  | _, _, _, _, .nil, e => by simp at e
  | _, _, 0, _, .cons a _, e => by simp at e; subst e; exact ⟨_, rfl, a⟩
  | _, _, i + 1, _, .cons _ b, e => by
    obtain ⟨v, h1, h2⟩ := DnL.get (i := i) b (by simpa using e)
    exact ⟨v, by simpa using h1, h2⟩
theorem DnL.getV : ∀ {vs : List V} {ds : List PyData} {i : Nat} {v : V}, DnL B H vs ds → vs[i]? = some v → ∃ d, ds[i]? = some d ∧ Dn B H v d
  | _, _, _, _, .nil, e => by simp at e
  | _, _, 0, _, .cons a _, e => by simp at e; subst e; exact ⟨_, rfl, a⟩
  | _, _, i + 1, _, .cons _ b, e => by
    obtain ⟨v, h1, h2⟩ := DnL.getV (i := i) b (by simpa using e)
    exact ⟨v, by simpa using h1, h2⟩
theorem DnL.append : ∀ {vs ws : List V} {ds es : List PyData}, DnL B H vs ds → DnL B H ws es → DnL B H (vs ++ ws) (ds ++ es)
  | _, _, _, _, .nil, h => h
  | _, _, _, _, .cons a b, h => .cons a (DnL.append b h)
theorem DnL.take : ∀ {vs : List V} {ds : List PyData} (n : Nat), DnL B H vs ds → DnL B H (vs.take n) (ds.take n)
  | _, _, 0, _ => by simp; exact .nil
  | _, _, _ + 1, .nil => .nil
  | _, _, n + 1, .cons a b => .cons a (DnL.take n b)
theorem DnL.drop : ∀ {vs : List V} {ds : List PyData} (n : Nat), DnL B H vs ds → DnL B H (vs.drop n) (ds.drop n)
  | _, _, 0, h => h
  | _, _, _ + 1, .nil => .nil
  | _, _, n + 1, .cons _ b => DnL.drop n b
theorem DnL.set {v : V} {d : PyData} (hv : Dn B H v d) : ∀ {vs : List V} {ds : List PyData} (n : Nat), DnL B H vs ds → DnL B H (vs.set n v) (ds.set n d)
  | _, _, _, .nil => .nil
  | _, _, 0, .cons _ b => .cons hv b
  | _, _, n + 1, .cons a b => .cons a (DnL.set hv n b)
theorem DnL.reverse : ∀ {vs : List V} {ds : List PyData}, DnL B H vs ds → DnL B H vs.reverse ds.reverse
  | _, _, .nil => .nil
  | _, _, .cons a b => by
    rw [List.reverse_cons, List.reverse_cons]
    exact DnL.append (DnL.reverse b) (.cons a .nil)
theorem DnL.rep {vs : List V} {ds : List PyData} (h : DnL B H vs ds) : ∀ k : Nat, DnL B H (List.replicate k vs).flatten (List.replicate k ds).flatten
  | 0 => .nil
  | k + 1 => by
    rw [List.replicate_succ, List.replicate_succ, List.flatten_cons, List.flatten_cons]
    exact DnL.append h (DnL.rep h k)
theorem DnL.ints : ∀ {vs : List V} {ds : List PyData} {ns : List Int}, DnL B H vs ds → asInts ds = some ns → vs = ns.map V.int
  | _, _, ns, .nil, e => by
    have e' : some [] = some ns := e
    cases e'
    rfl
  | _, _, ns, .cons a b, e => by
    rename_i vs ds
    cases a with
    | int i =>
      have e' : (asInts ds).map (i :: ·) = some ns := e
      cases q : asInts ds with
      | none => rw [q] at e'; cases e'
      | some ms =>
        rw [q] at e'
        cases e'
        rw [DnL.ints b q]
        rfl
    | _ => exact absurd e (by simp [asInts])
theorem DnL.bools : ∀ {vs : List V} {ds : List PyData} {ns : List Bool}, DnL B H vs ds → asBools ds = some ns → vs = ns.map V.bl
  | _, _, ns, .nil, e => by
    have e' : some [] = some ns := e
    cases e'
    rfl
  | _, _, ns, .cons a b, e => by
    rename_i vs ds
    cases a with
    | bl i =>
      have e' : (asBools ds).map (i :: ·) = some ns := e
      cases q : asBools ds with
      | none => rw [q] at e'; cases e'
      | some ms =>
        rw [q] at e'
        cases e'
        rw [DnL.bools b q]
        rfl
    | _ => exact absurd e (by simp [asBools])
theorem DnL.of_ints : ∀ (ns : List Int), DnL B H (ns.map V.int) (ns.map PyData.int)
  | [] => .nil
  | n :: ns => .cons (.int n) (DnL.of_ints ns)
/-! inversions -/
theorem DnT.list (h : DnT S B H v (.list ds)) : ∃ a xs, v = .ref a ∧ H a = some (.lst xs) ∧ ds.length ≤ 16777216 ∧ DnL B H xs ds := by
  cases h with
  | of h =>
    cases h with
    | lst e n z l => exact ⟨_, _, rfl, e, z, l⟩
  | own e n z l => exact ⟨_, _, rfl, e, z, l⟩
theorem DnT.tuple (h : DnT S B H v (.tuple ds)) : ∃ a o xs, v = .ref a ∧ H a = some (.frz o (.tup xs)) ∧ o.dict = none ∧ ¬ B a ∧ ds.length ≤ 16777216 ∧ DnL B H xs ds := by
  cases h with
  | of h =>
    cases h with
    | tup e k n z l => exact ⟨_, _, _, rfl, e, k, n, z, l⟩
theorem DnT.int {i : Int} (h : DnT S B H v (.int i)) : v = .int i := by
  cases h with
  | of h => cases h; rfl
theorem DnT.str {i : Str} (h : DnT S B H v (.str i)) : v = .str i := by
  cases h with
  | of h => cases h; rfl
theorem DnT.bl {i : Bool} (h : DnT S B H v (.bool i)) : v = .bl i := by
  cases h with
  | of h => cases h; rfl
theorem DnT.non (h : DnT S B H v .none) : v = .non := by
  cases h with
  | of h => cases h; rfl
theorem DnT.nodict {kvs : List (PyData × PyData)} (h : DnT S B H v (.dict kvs)) : False := by
  cases h with
  | of h => cases h
theorem DnT.imp (hk : ∀ a o, H a = some o → ¬ B a → H' a = some o ∧ ¬ B' a) (ht : ∀ a xs, H a = some (.lst xs) → H' a = some (.lst xs)) (h : DnT S B H v d) : DnT S B' H' v d := by
  cases h with
  | of h => exact .of (h.imp hk)
  | own e n z l => exact .own (ht _ _ e) n z (l.imp hk)
mutual
theorem Dn.dp {K : PySem.W.Frag} : ∀ {v : V} {d : PyData}, Dn B H v d → Dp K H v d
  | _, _, .non => .non
  | _, _, .bl b => .bl b
  | _, _, .int i => .int i
  | _, _, .str x => .str x
  | _, _, .tup e _ _ _ l => .tup (.inl (.inr ⟨_, e⟩)) (DnL.dp l)
  | _, _, .lst e _ _ l => .lst (SqL.of e) (DnL.dp l)
theorem DnL.dp {K : PySem.W.Frag} : ∀ {vs : List V} {ds : List PyData}, DnL B H vs ds → DpAll K H vs ds
  | _, _, .nil => .nil
  | _, _, .cons a b => .cons (Dn.dp a) (DnL.dp b)
end
theorem DnT.dp {K : PySem.W.Frag} (h : DnT S B H v d) : Dp K H v d := by
  cases h with
  | of h => exact h.dp
  | own e _ _ l => exact .lst (SqL.of e) l.dp
end

/-! ### the draws' state -/
/-- at a the state of the draws, its cells at another address; at least b draws are left -/
def StA (S : Ads) (b : Nat) (H : Hp) (a : Addr) : Prop := S a ∧ ∃ (c : Addr) (ns : List Int) (k x y z w : Int), S c ∧ a ≠ c ∧
  H a = some (.lst [.ref c, .int k, .int x, .int y, .int z, .int w]) ∧ H c = some (.lst (ns.map V.int)) ∧ 0 ≤ k ∧ 0 ≤ y ∧ 0 ≤ w ∧ w + b ≤ 4611686018427387904
theorem StA.le {S : Ads} {b b' : Nat} {H : Hp} {a : Addr} (h : StA S b H a) (hb : b' ≤ b) : StA S b' H a := by
  obtain ⟨h0, c, ns, k, x, y, z, w, h1, h2, h3, h4, h5, h6, h7, h8⟩ := h
  exact ⟨h0, c, ns, k, x, y, z, w, h1, h2, h3, h4, h5, h6, h7, by omega⟩
/-- all is kept but the state, which is a state again -/
structure Ext (S : Ads) (b b' : Nat) (H H' : Hp) : Prop where
  keep : ∀ a o, H a = some o → ¬ S a → H' a = some o
  dom : ∀ a, H a ≠ none → H' a ≠ none
  st : ∀ a, StA S b H a → StA S b' H' a
  le : b' ≤ b
/-- where one stands: the state's addresses are barred, what is barred stands -/
structure Ctx (S B : Ads) (H : Hp) : Prop where
  sb : ∀ a, S a → B a
  dom : ∀ a, B a → H a ≠ none
section
variable {S B : Ads} {b b1 b2 : Nat} {H H1 H2 : Hp}
theorem Ext.refl : Ext S b b H H := ⟨fun _ _ h _ => h, fun _ h => h, fun _ h => h, Nat.le_refl _⟩
theorem Ext.trans (x : Ext S b b1 H H1) (y : Ext S b1 b2 H1 H2) : Ext S b b2 H H2 :=
  ⟨fun a o h n => y.keep a o (x.keep a o h n) n, fun a h => y.dom a (x.dom a h), fun a h => y.st a (x.st a h), Nat.le_trans y.le x.le⟩
theorem Ext.alloc {p : Addr} {o : HO} (hp : H p = none) : Ext S b b H (upd H p o) := by
  refine ⟨fun a u h _ => ?_, fun a h => ?_, fun a h => ?_, Nat.le_refl _⟩
  · rw [upd_ne (ne_of_none h hp)]; exact h
  · by_cases e : a = p
    · subst e; exact absurd hp h
    · rw [upd_ne e]; exact h
  · obtain ⟨h0, c, ns, k, x, y, z, w, h1, h2, h3, h4, h5⟩ := h
    exact ⟨h0, c, ns, k, x, y, z, w, h1, h2, by rw [upd_ne (ne_of_none h3 hp)]; exact h3, by rw [upd_ne (ne_of_none h4 hp)]; exact h4, h5⟩
theorem Ext.free {p : Addr} (x : Ext S b b1 H H1) (hp : H1 p = none) : H p = none := by
  cases e : H p with
  | none => rfl
  | some o => exact absurd hp (x.dom p (by rw [e]; simp))
theorem Ctx.ext (c : Ctx S B H) (x : Ext S b b1 H H1) : Ctx S B H1 := ⟨c.sb, fun a h => x.dom a (c.dom a h)⟩
theorem Ctx.hk (c : Ctx S B H) (x : Ext S b b1 H H1) : ∀ a o, H a = some o → ¬ B a → H1 a = some o ∧ ¬ B a := fun a o h n => ⟨x.keep a o h fun q => n (c.sb a q), n⟩
theorem Ctx.nb {p : Addr} (c : Ctx S B H) (hp : H p = none) : ¬ B p := fun h => c.dom p h hp
theorem Dn.ext {v : V} {d : PyData} (h : Dn B H v d) (c : Ctx S B H) (x : Ext S b b1 H H1) : Dn B H1 v d := h.imp (c.hk x)
theorem DnL.ext {vs : List V} {ds : List PyData} (h : DnL B H vs ds) (c : Ctx S B H) (x : Ext S b b1 H H1) : DnL B H1 vs ds := h.imp (c.hk x)
theorem DnT.ext {v : V} {d : PyData} (h : DnT S B H v d) (c : Ctx S B H) (x : Ext S b b1 H H1) : DnT S B H1 v d := by
  cases h with
  | of h => exact .of (h.ext c x)
  | own q n z l => exact .own (x.keep _ _ q n) n z (l.ext c x)
/-- with one more address barred that was not there -/
theorem Dn.bar {v : V} {d : PyData} {p : Addr} (h : Dn B H v d) (hp : H p = none) : Dn (fun a => B a ∨ a = p) H v d :=
  h.imp fun a o e n => ⟨e, fun q => q.elim n fun z => by subst z; rw [hp] at e; cases e⟩
theorem DnL.bar {v : List V} {d : List PyData} {p : Addr} (h : DnL B H v d) (hp : H p = none) : DnL (fun a => B a ∨ a = p) H v d :=
  h.imp fun a o e n => ⟨e, fun q => q.elim n fun z => by subst z; rw [hp] at e; cases e⟩
theorem Dn.unbar {B' : Ads} {v : V} {d : PyData} (h : Dn B H v d) (hb : ∀ a, B' a → B a) : Dn B' H v d := h.imp fun a o e n => ⟨e, fun q => n (hb a q)⟩
theorem DnL.unbar {B' : Ads} {v : List V} {d : List PyData} (h : DnL B H v d) (hb : ∀ a, B' a → B a) : DnL B' H v d := h.imp fun a o e n => ⟨e, fun q => n (hb a q)⟩
end

/-! ### slots -/
structure ER (S B : Ads) (b : Nat) (σ : St) (H : Hp) (ρ : Rho) : Prop where
  len : σ.length = ρ.length
  va : ∀ (i : Nat) (d : PyData), ρ[i]? = some (.va d) → ∃ v, σ[i]? = some (some v) ∧ Dn B H v d
  ow : ∀ (i : Nat) (d : PyData), ρ[i]? = some (.ow d) → ∃ a, σ[i]? = some (some (.ref a)) ∧ B a ∧ ¬ S a ∧ DnT S B H (.ref a) d
  st : ∀ (i : Nat), ρ[i]? = some .st → ∃ a, σ[i]? = some (some (.ref a)) ∧ StA S b H a
  dis : ∀ (i j : Nat) (a : Addr) (d e : PyData), i ≠ j → ρ[i]? = some (.ow d) → ρ[j]? = some (.ow e) → σ[i]? = some (some (.ref a)) → σ[j]? ≠ some (some (.ref a))
theorem ER.ext {S B : Ads} {b b1 : Nat} {σ : St} {H H1 : Hp} {ρ : Rho} (e : ER S B b σ H ρ) (c : Ctx S B H) (x : Ext S b b1 H H1) : ER S B b1 σ H1 ρ where
  len := e.len
  va := fun i d h => let ⟨v, h1, h2⟩ := e.va i d h; ⟨v, h1, h2.ext c x⟩
  ow := fun i d h => by
    obtain ⟨a, h1, h2, h3, h4⟩ := e.ow i d h
    refine ⟨a, h1, h2, h3, ?_⟩
    cases h4 with
    | of h4 => exact .of (h4.ext c x)
    | own q n z l => exact .own (x.keep _ _ q h3) n z (l.ext c x)
  st := fun i h => let ⟨a, h1, h2⟩ := e.st i h; ⟨a, h1, x.st a h2⟩
  dis := e.dis
/-- what an expression hands back: a value, and, where it says so, a new list -/
def Res (fr : Bool) (B : Ads) (H H' : Hp) (v : V) (d : PyData) : Prop := Dn B H' v d ∧
  (fr = true → ∀ ds, d = .list ds → ∃ p xs, v = .ref p ∧ H p = none ∧ H' p = some (.lst xs) ∧ DnL (fun a => B a ∨ a = p) H' xs ds)
section
variable {S B : Ads} {b b1 : Nat} {H H1 : Hp} {fr : Bool}
theorem Res.new {p : Addr} {xs : List V} {ds : List PyData} (c : Ctx S B H) (x : Ext S b b1 H H1) (hp : H1 p = none) (hz : ds.length ≤ 16777216) (h : DnL B H1 xs ds) : Res fr B H (upd H1 p (.lst xs)) (.ref p) (.list ds) := by
  have c1 := c.ext x
  have h2 : DnL (fun a => B a ∨ a = p) (upd H1 p (.lst xs)) xs ds := (h.bar hp).imp fun a u e n => ⟨by rw [upd_ne fun z => n (.inr z)]; exact e, n⟩
  refine ⟨.lst upd_same (c1.nb hp) hz (h2.unbar fun a => .inl), fun _ es e => ?_⟩
  cases e
  exact ⟨p, xs, rfl, x.free hp, upd_same, h2⟩
theorem Res.tup {p : Addr} {o : Obj} {xs : List V} {ds : List PyData} (c : Ctx S B H) (x : Ext S b b1 H H1) (hp : H1 p = none) (ho : o.dict = none) (hz : ds.length ≤ 16777216) (h : DnL B H1 xs ds) : Res fr B H (upd H1 p (.frz o (.tup xs))) (.ref p) (.tuple ds) := by
  have c1 := c.ext x
  have h2 : DnL (fun a => B a ∨ a = p) (upd H1 p (.frz o (.tup xs))) xs ds := (h.bar hp).imp fun a u e n => ⟨by rw [upd_ne fun z => n (.inr z)]; exact e, n⟩
  exact ⟨.tup upd_same ho (c1.nb hp) hz (h2.unbar fun a => .inl), fun _ es e => nomatch e⟩
theorem Res.of {v : V} {d : PyData} (h : Dn B H1 v d) : Res false B H H1 v d := ⟨h, fun e => nomatch e⟩
theorem Res.flat {v : V} {d : PyData} (h : Dn B H1 v d) (hd : ∀ ds, d ≠ .list ds) : Res fr B H H1 v d := ⟨h, fun _ ds e => absurd e (hd ds)⟩
theorem Res.pre {H0 : Hp} {b0 : Nat} {v : V} {d : PyData} (h : Res fr B H H1 v d) (x : Ext S b0 b H0 H) : Res fr B H0 H1 v d :=
  ⟨h.1, fun f ds e => let ⟨p, xs, h1, h2, h3⟩ := h.2 f ds e; ⟨p, xs, h1, x.free h2, h3⟩⟩
theorem Res.weak {v : V} {d : PyData} (h : Res true B H H1 v d) : Res fr B H H1 v d := ⟨h.1, fun _ => h.2 rfl⟩
end

/-! ### readings by data -/
def RdE (f : Rho → T PyData) (fr : Bool) : TE := fun σ H Q => ∃ S B b ρ, Ctx S B H ∧ ER S B b σ H ρ ∧ (f ρ).wp b fun d b' => ∀ v H', Ext S b b' H H' → Res fr B H H' v d → Q v H'
def RdR (f : Rho → T PyData) : TE := fun σ H Q => ∃ S B b ρ, Ctx S B H ∧ ER S B b σ H ρ ∧ (f ρ).wp b fun d b' => ∀ v H', Ext S b b' H H' → DnT S B H' v d → Q v H'
def RdT (f : Rho → T Bool) : TT := fun σ H Q => ∃ S B b ρ, Ctx S B H ∧ ER S B b σ H ρ ∧ (f ρ).wp b fun k b' => ∀ H', Ext S b b' H H' → Q k H'
inductive DnTL (S B : Ads) (H : Hp) : List V → List PyData → Prop where
  | nil : DnTL S B H [] []
  | cons {v : V} {d : PyData} {vs : List V} {ds : List PyData} : DnT S B H v d → DnTL S B H vs ds → DnTL S B H (v :: vs) (d :: ds)
def RdA (f : Rho → T (List PyData)) : TA := fun σ H Q => ∃ S B b ρ, Ctx S B H ∧ ER S B b σ H ρ ∧ (f ρ).wp b fun ds b' => ∀ vs H', Ext S b b' H H' → DnTL S B H' vs ds → Q vs H'
/-- a value or the state -/
inductive SlD (S B : Ads) (b : Nat) (H : Hp) : V → Sl → Prop where
  | va {v : V} {d : PyData} : Dn B H v d → SlD S B b H v (.va d)
  | st {a : Addr} : StA S b H a → SlD S B b H (.ref a) .st
/-- arguments from the left, each at the heap behind it; the new lists among them barred for the later ones -/
inductive SlL (S : Ads) (b : Nat) : Ads → Nat → Hp → Hp → List V → List Sl → List Bool → Prop where
  | nil {B : Ads} {b0 : Nat} {H H' : Hp} : Ext S b0 b H H' → SlL S b B b0 H H' [] [] []
  | cons {B : Ads} {b0 b1 : Nat} {H H1 H' : Hp} {v : V} {s : Sl} {f : Bool} {vs : List V} {ss : List Sl} {fs : List Bool} : Ext S b0 b1 H H1 → SlD S B b1 H1 v s → (f = true → ∀ ds, s ≠ .va (.list ds)) → SlL S b B b1 H1 H' vs ss fs → SlL S b B b0 H H' (v :: vs) (s :: ss) (f :: fs)
  | new {B : Ads} {b0 b1 : Nat} {H H1 H' : Hp} {p : Addr} {xs : List V} {ds : List PyData} {vs : List V} {ss : List Sl} {fs : List Bool} : Ext S b0 b1 H H1 → H p = none → H1 p = some (.lst xs) → ds.length ≤ 16777216 → DnL (fun a => B a ∨ a = p) H1 xs ds → SlL S b (fun a => B a ∨ a = p) b1 H1 H' vs ss fs →
    SlL S b B b0 H H' (.ref p :: vs) (.va (.list ds) :: ss) (true :: fs)
def RdC (f : Rho → T (List Sl)) (fs : List Bool) : TA := fun σ H Q => ∃ S B b ρ, Ctx S B H ∧ ER S B b σ H ρ ∧ (f ρ).wp b fun ss b' => ∀ vs H', Ext S b b' H H' → SlL S b' B b H H' vs ss fs → Q vs H'
theorem DnTL.ext {S B : Ads} {b b1 : Nat} {H H1 : Hp} (c : Ctx S B H) (x : Ext S b b1 H H1) : ∀ {vs : List V} {ds : List PyData}, DnTL S B H vs ds → DnTL S B H1 vs ds
  | _, _, .nil => .nil
  | _, _, .cons a r => .cons (a.ext c x) (DnTL.ext c x r)
/-- a value for reading; where pl says so it is a plain value -/
def RdP (f : Rho → T PyData) (pl : Rho → Bool) : TE := fun σ H Q => ∃ S B b ρ, Ctx S B H ∧ ER S B b σ H ρ ∧ (f ρ).wp b fun d b' => ∀ v H', Ext S b b' H H' → DnT S B H' v d → (pl ρ = true → Dn B H' v d) → Q v H'
def RdAP (f : Rho → T (List PyData)) (pl : Rho → Bool) : TA := fun σ H Q => ∃ S B b ρ, Ctx S B H ∧ ER S B b σ H ρ ∧ (f ρ).wp b fun ds b' => ∀ vs H', Ext S b b' H H' → DnTL S B H' vs ds → (pl ρ = true → DnL B H' vs ds) → Q vs H'
theorem SlL.ext {S : Ads} {b : Nat} {B : Ads} {b0 : Nat} {H H' : Hp} {vs : List V} {ss : List Sl} {fs : List Bool} (h : SlL S b B b0 H H' vs ss fs) : Ext S b0 b H H' := by
  induction h with
  | nil x => exact x
  | cons x _ _ _ ih => exact x.trans ih
  | new x _ _ _ _ _ ih => exact x.trans ih
theorem SlL.unbar {S : Ads} {b : Nat} {B : Ads} {b0 : Nat} {H H' : Hp} {vs : List V} {ss : List Sl} {fs : List Bool} (h : SlL S b B b0 H H' vs ss fs) : ∀ {B' : Ads}, (∀ a, B' a → B a) → SlL S b B' b0 H H' vs ss fs := by
  induction h with
  | nil x => intro B' hb; exact .nil x
  | cons x d nf _ ih =>
    intro B' hb
    refine .cons x ?_ nf (ih hb)
    cases d with
    | va d => exact .va (d.unbar hb)
    | st d => exact .st d
  | new x h1 h2 z l _ ih => intro B' hb; exact .new x h1 h2 z (l.unbar fun a q => q.imp (hb a) id) (ih fun a q => q.imp (hb a) id)
theorem _root_.L2.PE.imp {X : Cx} {e : Expr} {t t' : TE} (h : PE X e t) (i : ∀ σ H Q, t' σ H Q → t σ H Q) : PE X e t' := ⟨fun pins s σ H Q I q => h.run pins s σ H Q I (i σ H Q q)⟩
theorem _root_.L2.PT.imp {X : Cx} {e : Expr} {t t' : TT} (h : PT X e t) (i : ∀ σ H Q, t' σ H Q → t σ H Q) : PT X e t' := ⟨fun pins s σ H Q I q => h.run pins s σ H Q I (i σ H Q q)⟩
theorem _root_.L2.PW.imp {X : Cx} {e : Expr} {t t' : TT} (h : PW X e t) (i : ∀ σ H Q, t' σ H Q → t σ H Q) : PW X e t' := ⟨fun w pins s σ H Q I q => h.run w pins s σ H Q I (i σ H Q q)⟩
theorem _root_.L2.PA.imp {X : Cx} {es : List Expr} {t t' : TA} (h : PA X es t) (i : ∀ σ H Q, t' σ H Q → t σ H Q) : PA X es t' := ⟨fun pos pins s σ H Q I q => h.run pos pins s σ H Q I (i σ H Q q)⟩
theorem _root_.L2.PS.imp {X : Cx} {st : Stmt} {t t' : TS} (h : PS X st t) (i : ∀ D σ H, t' D σ H → t D σ H) : PS X st t' := ⟨fun pins s σ H D I q => h.run pins s σ H D I (i D σ H q)⟩
theorem _root_.L2.PSs.imp {X : Cx} {st : List Stmt} {t t' : TS} (h : PSs X st t) (i : ∀ D σ H, t' D σ H → t D σ H) : PSs X st t' := ⟨fun pins s σ H D I q => h.run pins s σ H D I (i D σ H q)⟩
theorem _root_.L2.PI.imp {X : Cx} {tg e : Expr} {t t' : TI} (h : PI X tg e t) (i : ∀ σ H R, t' σ H R → t σ H R) : PI X tg e t' := ⟨fun pins s σ H R I q => h.run pins s σ H R I (i σ H R q)⟩
theorem _root_.L2.PG.imp {X : Cx} {e : Expr} {t t' : TG} (h : PG X e t) (i : ∀ v σ H Q, t' v σ H Q → t v σ H Q) : PG X e t' := ⟨fun pins s σ H v u Q I r q => h.run pins s σ H v u Q I r (i v σ H Q q)⟩
/-- a value for reading alone -/
theorem RdR.of {X : Cx} {e : Expr} {f : Rho → T PyData} {fr : Bool} (h : PE X e (RdE f fr)) : PE X e (RdR f) :=
  h.imp fun σ H Q ⟨S, B, b, ρ, c, er, w⟩ => ⟨S, B, b, ρ, c, er, T.wp_mono (fun d b' q v H' x r => q v H' x (.of r.1)) w⟩
end RG
end

section
set_option Elab.async false
set_option linter.all false
set_option maxRecDepth 100000
set_option maxHeartbeats 4000000
/-! Operations on values, by data. -/
namespace RG
open PySem PySem.Spec L2

theorem wp_chk {α : Type} {c : Bool} {t : T α} {b : Nat} {Q : α → Nat → Prop} (h : (T.chk c t).wp b Q) : c = true ∧ t.wp b Q := by
  cases c with
  | true => exact ⟨rfl, h⟩
  | false => exact h.elim
theorem small_le {n : Nat} (h : small n = true) : n ≤ 16777216 := of_decide_eq_true h
theorem line_eq : (sizeLine : Nat) = 16777216 := sizeLine_eq

/-! ### new tuples, known to the object -/
section
variable {X : Cx} {pins : List (Addr × Obj)} {σ : L2.St} {H : Hp} {s : Shared}
theorem Inv_tupNew {h' : Heap} {t' : Nat} {a : Addr} {xs : List V} {its : List Value} {n : Nat} (I : Inv X pins σ H s) (k : ∀ b u, s.heap.get? b = some u → h'.get? b = some u) (ha : s.heap.objs.size ≤ a) (hz : xs.length ≤ sizeLine) (r : Vals xs its)
    (e : h'.get? a = some { cls := .type "tuple", data := .seq its.toArray n }) : Inv X pins σ (upd H a (.frz { cls := .type "tuple", data := .seq its.toArray n } (.tup xs))) { s with heap := h', toks := t' } :=
  I.laid k ha ⟨e, hz, its, r, _, e, rfl, n, rfl⟩
theorem pe_tupN {es : List Expr} {t : TA} {x1 : Nat} {pos : Pos} (h : PA X es t) : PE X (.Tuple es x1 pos) (fun σ H Q => t σ H fun xs H1 => xs.length ≤ sizeLine ∧ ∀ p o, H1 p = none → o.dict = none → Q (.ref p) (upd H1 p (.frz o (.tup xs)))) := by
  refine ⟨fun pins s σ H Q I hq => ?_⟩
  refine wpAny_Tuple_spliced (thn (h.run pos pins s σ H _ I hq) fun us s1 ⟨xs, H1, I1, r, z, q⟩ => ⟨by rw [← r.length]; exact z, ?_⟩)
  have hf : H1 s1.heap.objs.size = none := I1.hok.fresh (Nat.le_refl _)
  exact ⟨.ref s1.heap.objs.size, _, Inv_tupNew (t' := s1.toks) I1 (fun b u e => Heap.get?_push_of_some _ e) (Nat.le_refl _) z r (Heap.get?_push_size _ rfl), rfl, q _ _ hf rfl⟩
end

/-! ### the readings -/
def rOp (fr : Bool) (g : PyData → PyData → T PyData) : R2 := fun x y H Q => ∃ S B b dx dy, Ctx S B H ∧ DnT S B H x dx ∧ DnT S B H y dy ∧ (g dx dy).wp b fun d b' => ∀ v H', Ext S b b' H H' → Res fr B H H' v d → Q v H'
def rCmp (g : PyData → PyData → T Bool) : R2 := fun x y H Q => ∃ S B b dx dy, Ctx S B H ∧ DnT S B H x dx ∧ DnT S B H y dy ∧ (g dx dy).wp b fun k b' => ∀ H', Ext S b b' H H' → Q (.bl k) H'
section
variable {S B : Ads} {b : Nat} {H : Hp}
theorem Res.int {i : Int} {H' : Hp} {fr : Bool} : Res fr B H H' (.int i) (.int i) := .flat (.int i) fun _ e => nomatch e
theorem Res.bl {i : Bool} {H' : Hp} {fr : Bool} : Res fr B H H' (.bl i) (.bool i) := .flat (.bl i) fun _ e => nomatch e
theorem Res.str {i : Str} {H' : Hp} {fr : Bool} : Res fr B H H' (.str i) (.str i) := .flat (.str i) fun _ e => nomatch e
theorem Res.non {H' : Hp} {fr : Bool} : Res fr B H H' .non .none := .flat .non fun _ e => nomatch e
end
section
variable {X : Cx}
theorem op_addL : OpR X (binaryOp .Add) (fun x y H Q => ∃ a c xs ys, x = .ref a ∧ y = .ref c ∧ H a = some (.lst xs) ∧ H c = some (.lst ys) ∧ xs.length + ys.length ≤ sizeLine ∧ ∀ p, H p = none → Q (.ref p) (upd H p (.lst (xs ++ ys)))) := by
  intro pins s σ H x y v u Q I rx ry ⟨a, c, xs, ys, e1, e2, h1, h2, hz, q⟩
  exact op_cat pins s σ H x y v u Q I rx ry ⟨a, c, xs, ys, e1, e2, h1, h2, hz, q⟩
theorem op_addT : OpR X (binaryOp .Add) (fun x y H Q => ∃ a c o1 o2 xs ys, x = .ref a ∧ y = .ref c ∧ H a = some (.frz o1 (.tup xs)) ∧ H c = some (.frz o2 (.tup ys)) ∧ xs.length + ys.length ≤ sizeLine ∧
    (xs = [] → Q (.ref c) H) ∧ (xs ≠ [] → ys = [] → Q (.ref a) H) ∧ ∀ p o, H p = none → o.dict = none → Q (.ref p) (upd H p (.frz o (.tup (xs ++ ys))))) := by
  intro pins s σ H x y v u Q I rx ry ⟨a, c, o1, o2, xs, ys, e1, e2, h1, h2, hz, q0, q1, q2⟩
  subst e1 e2
  cases rx
  cases ry
  have s1 : SqT X.K H a xs := .inl (.inr ⟨o1, h1⟩)
  have s2 : SqT X.K H c ys := .inl (.inr ⟨o2, h2⟩)
  obtain ⟨its, r1, p1, _⟩ := I.tuple s1
  obtain ⟨its2, r2, p2, _⟩ := I.tuple s2
  by_cases hx : xs = []
  · subst hx
    cases r1
    exact cat_tup0 p1 p2 ⟨.ref c, H, I, rfl, q0 rfl⟩
  · refine HT.cat_tup p1 p2 (fun z => hx (r1.nil_iff.mp z)) (fun z => ⟨.ref a, H, I, rfl, q1 hx (r2.nil_iff.mp z)⟩) (fun z => ?_) (by rw [← r1.length, ← r2.length]; exact hz)
    exact ⟨.ref s.heap.objs.size, _, Inv_tupNew (t' := s.toks) I (fun b ob q => Heap.get?_push_of_some _ q) (Nat.le_refl _) (by rw [List.length_append]; exact hz) (r1.append r2) (Heap.get?_push_size _ rfl), rfl, q2 _ _ (I.hok.fresh (Nat.le_refl _)) rfl⟩
theorem mul_ok {i j : Int} (h : mulOk i j = true) : CMul i j ∨ CMulW i j := by
  unfold mulOk at h
  rw [Bool.or_eq_true, Bool.or_eq_true, Bool.and_eq_true] at h
  rcases h with (h | h) | ⟨h1, h2⟩
  · have h := of_decide_eq_true h
    exact .inl (.inl ⟨by omega, by omega⟩)
  · have h := of_decide_eq_true h
    exact .inl (.inr ⟨by omega, by omega⟩)
  · exact .inr (wide_mul (a := 9000) (b := 9000) (of_decide_eq_true h1) (of_decide_eq_true h2) (by decide) (by decide) (by decide))
theorem op_bin {op : Operator} : OpR X (binaryOp op) (rOp true (binOp op)) := by
  intro pins s σ H x y v u Q I rx ry ⟨S, B, b, dx, dy, c, hx, hy, w⟩
  unfold binOp at w
  split at w
  · obtain rfl := hx.int
    obtain rfl := hy.int
    exact op_add pins s σ H _ _ v u Q I rx ry ⟨_, _, rfl, rfl, w _ _ .refl .int⟩
  · obtain rfl := hx.str
    obtain rfl := hy.str
    obtain ⟨h1, w⟩ := wp_chk w
    exact op_add_str pins s σ H _ _ v u Q I rx ry ⟨_, _, rfl, rfl, by rw [line_eq]; exact small_le h1, w _ _ .refl .str⟩
  · obtain ⟨a1, xs1, rfl, e1, z1, l1⟩ := hx.list
    obtain ⟨a2, xs2, rfl, e2, z2, l2⟩ := hy.list
    obtain ⟨h1, w⟩ := wp_chk w
    have h1 := small_le h1
    refine op_addL pins s σ H _ _ v u Q I rx ry ⟨a1, a2, xs1, xs2, rfl, rfl, e1, e2, by rw [line_eq, l1.length, l2.length]; exact h1, fun p hp => w _ _ (.alloc hp) ?_⟩
    exact .new (b := b) c .refl hp (by rw [List.length_append]; exact h1) (l1.append l2)
  · obtain ⟨a1, o1, xs1, rfl, e1, k1, n1, z1, l1⟩ := hx.tuple
    obtain ⟨a2, o2, xs2, rfl, e2, k2, n2, z2, l2⟩ := hy.tuple
    rename_i ds1 ds2
    obtain ⟨h1, w⟩ := wp_chk w
    have h1 := small_le h1
    refine op_addT pins s σ H _ _ v u Q I rx ry ⟨a1, a2, o1, o2, xs1, xs2, rfl, rfl, e1, e2, by rw [line_eq, l1.length, l2.length]; exact h1, fun z => ?_, fun _ z => ?_, fun p o hp ho => w _ _ (.alloc hp) ?_⟩
    · subst z
      cases l1
      exact w _ _ .refl (.flat (.tup e2 k2 n2 z2 l2) fun _ e => nomatch e)
    · subst z
      cases l2
      rw [List.append_nil] at w
      exact w _ _ .refl (.flat (.tup e1 k1 n1 z1 l1) fun _ e => nomatch e)
    · exact .tup (b := b) c .refl hp ho (by rw [List.length_append]; exact h1) (l1.append l2)
  · obtain rfl := hx.int
    obtain rfl := hy.int
    exact op_sub pins s σ H _ _ v u Q I rx ry ⟨_, _, rfl, rfl, w _ _ .refl .int⟩
  · obtain rfl := hx.int
    obtain rfl := hy.int
    obtain ⟨h1, w⟩ := wp_chk w
    rcases mul_ok h1 with h1 | h1
    · exact op_mul pins s σ H _ _ v u Q I rx ry ⟨_, _, rfl, rfl, h1, w _ _ .refl .int⟩
    · exact op_mulW pins s σ H _ _ v u Q I rx ry ⟨_, _, rfl, rfl, h1, w _ _ .refl .int⟩
  · obtain ⟨a1, xs1, rfl, e1, z1, l1⟩ := hx.list
    obtain rfl := hy.int
    obtain ⟨h1, w⟩ := wp_chk w
    rw [Bool.and_eq_true] at h1
    have h2 := small_le h1.1
    have h3 := of_decide_eq_true h1.2
    refine op_rep pins s σ H _ _ v u Q I rx ry ⟨a1, _, xs1, rfl, rfl, e1, by omega, by omega, by rw [line_eq, l1.length]; exact h2, fun p hp => w _ _ (.alloc hp) ?_⟩
    refine .new (b := b) c .refl hp ?_ (l1.rep _)
    unfold rep
    rw [List.length_flatten, List.map_replicate, List.sum_replicate_nat, Nat.mul_comm]
    exact h2
  · obtain rfl := hx.int
    obtain rfl := hy.int
    obtain ⟨h1, w⟩ := wp_chk w
    unfold divOk at h1
    rw [Bool.or_eq_true, Bool.and_eq_true, Bool.and_eq_true, Bool.and_eq_true] at h1
    rcases h1 with ⟨h1, h2⟩ | ⟨⟨h1, h3⟩, h2⟩
    · exact op_fdivN pins s σ H _ _ v u Q I rx ry ⟨_, _, rfl, rfl, ⟨of_decide_eq_true h1, of_decide_eq_true h2⟩, w _ _ .refl .int⟩
    · have h0 := of_decide_eq_true h1
      refine op_fdivW pins s σ H _ _ v u Q I rx ry ⟨_, _, rfl, rfl, wide_div (b := 9000) h0 (of_decide_eq_true h2) (by decide) (by decide), ?_⟩
      rw [Int.fdiv_eq_ediv_of_nonneg _ (by omega)] at w
      exact w _ _ .refl .int
  · obtain rfl := hx.int
    obtain rfl := hy.int
    obtain ⟨h1, w⟩ := wp_chk w
    exact op_modN pins s σ H _ _ v u Q I rx ry ⟨_, _, rfl, rfl, of_decide_eq_true h1, w _ _ .refl .int⟩
  · exact w.elim
end
end RG
end

section
set_option Elab.async false
set_option linter.all false
set_option maxRecDepth 100000
set_option maxHeartbeats 4000000
/-! Comparisons, items, slices, built-in calls, by data. -/
namespace RG
open PySem PySem.Spec L2

section
variable {S B : Ads} {H : Hp}
theorem scal_of {x y : V} {dx dy : PyData} (hx : DnT S B H x dx) (hy : DnT S B H y dy) (h : scalD dx dy = true) : scal x y = true ∧ decide (x = y) = PyData.eqv dx dy := by
  cases dx <;> cases dy <;> first
    | exact nomatch (show false = true from h)
    | skip
  all_goals (first | obtain rfl := hx.non | obtain rfl := hx.bl | obtain rfl := hx.int | obtain rfl := hx.str)
  all_goals (first | obtain rfl := hy.non | obtain rfl := hy.bl | obtain rfl := hy.int | obtain rfl := hy.str)
  all_goals (refine ⟨rfl, ?_⟩; first | (simp [PyData.eqv]; done) | (rw [Bool.eq_iff_iff]; simp [PyData.eqv]))
end
section
variable {X : Cx}
theorem op_cmp {op : CmpOp} (hu : X.A.units + 64 < cLine) : OpR X (compareOp op) (rCmp (cmpOp op)) := by
  intro pins s σ H x y v u Q I rx ry ⟨S, B, b, dx, dy, c, hx, hy, w⟩
  unfold cmpOp at w
  split at w
  · obtain ⟨h1, w⟩ := wp_chk w
    unfold okEq at h1
    rw [Bool.or_eq_true, Bool.and_eq_true] at h1
    rcases h1 with h1 | ⟨h1, h2⟩
    · obtain ⟨g1, g2⟩ := scal_of hx hy h1
      exact op_eq pins s σ H _ _ v u Q I rx ry ⟨g1, by rw [g2]; exact w _ .refl⟩
    · exact op_eqD hu pins s σ H _ _ v u Q I rx ry ⟨_, _, hx.dp, hy.dp, h1, h2, w _ .refl⟩
  · obtain ⟨h1, w⟩ := wp_chk w
    unfold okEq at h1
    rw [Bool.or_eq_true, Bool.and_eq_true] at h1
    rcases h1 with h1 | ⟨h1, h2⟩
    · obtain ⟨g1, g2⟩ := scal_of hx hy h1
      exact op_ne pins s σ H _ _ v u Q I rx ry ⟨g1, by rw [g2]; exact w _ .refl⟩
    · exact op_neD hu pins s σ H _ _ v u Q I rx ry ⟨_, _, hx.dp, hy.dp, h1, h2, w _ .refl⟩
  all_goals first
    | (obtain rfl := hx.int
       obtain rfl := hy.int
       first
        | exact op_lt pins s σ H _ _ v u Q I rx ry ⟨_, _, rfl, rfl, w _ .refl⟩
        | exact op_le pins s σ H _ _ v u Q I rx ry ⟨_, _, rfl, rfl, w _ .refl⟩
        | exact op_gt pins s σ H _ _ v u Q I rx ry ⟨_, _, rfl, rfl, w _ .refl⟩
        | exact op_ge pins s σ H _ _ v u Q I rx ry ⟨_, _, rfl, rfl, w _ .refl⟩)
    | exact w.elim

/-! ### items -/
theorem atD_wp {xs : List PyData} {i : Int} {b : Nat} {Q : PyData → Nat → Prop} (h : (atD xs i).wp b Q) : ∃ d, atI xs i = some d ∧ Q d b := by
  unfold atD at h
  split at h
  · exact ⟨_, by assumption, h⟩
  · exact h.elim
theorem atI_dn {B : Ads} {H : Hp} {vs : List V} {ds : List PyData} {i : Int} {d : PyData} (h : DnL B H vs ds) (e : atI ds i = some d) : ∃ v, atI vs i = some v ∧ Dn B H v d := by
  unfold atI at e ⊢
  rw [h.length]
  cases q : ixN ds.length i with
  | none => rw [q] at e; cases e
  | some j =>
    rw [q] at e
    exact h.get (show ds[j]? = some d from e)
theorem op_sub_ : IxR X (rOp false subOp) := by
  intro value slice pins s σ H x y v u Q I rx ry ⟨S, B, b, dx, dy, c, hx, hy, w⟩ hs
  unfold subOp at w
  split at w
  · obtain ⟨a1, xs1, rfl, e1, z1, l1⟩ := hx.list
    obtain rfl := hy.int
    obtain ⟨d, hd, w⟩ := atD_wp w
    obtain ⟨z, hz, hv⟩ := atI_dn l1 hd
    exact ix_list value slice pins s σ H _ _ v u Q I rx ry ⟨a1, xs1, _, z, rfl, rfl, SqL.of e1, hz, w _ _ .refl (.of hv)⟩ hs
  · obtain ⟨a1, o1, xs1, rfl, e1, k1, n1, z1, l1⟩ := hx.tuple
    obtain rfl := hy.int
    obtain ⟨d, hd, w⟩ := atD_wp w
    obtain ⟨z, hz, hv⟩ := atI_dn l1 hd
    exact ix_tup value slice pins s σ H _ _ v u Q I rx ry ⟨a1, xs1, _, z, rfl, rfl, .inl (.inr ⟨o1, e1⟩), hz, w _ _ .refl (.of hv)⟩ hs
  · exact w.elim

/-! ### slices -/
def rSli : V → Option Int → Option Int → Hp → VK → Prop := fun x lo hi H Q => ∃ S B b dx, Ctx S B H ∧ DnT S B H x dx ∧ (sliOp dx lo hi).wp b fun d b' => ∀ v H', Ext S b b' H H' → Res true B H H' v d → Q v H'
theorem cut_le {xs : List PyData} {lo hi : Option Int} : (cutD xs lo hi).length ≤ xs.length := by
  unfold cutD
  rw [List.length_take, List.length_drop]
  omega
theorem cut_dn {B : Ads} {H : Hp} {vs : List V} {ds : List PyData} (h : DnL B H vs ds) (lo hi : Option Int) : DnL B H (cutV vs lo hi) (cutD ds lo hi) := by
  unfold cutV cutD
  rw [h.length]
  exact (h.drop _).take _
theorem sl_any : SlR X rSli := by
  intro pins s σ H x v vl vu lo hi sl Q I rx hs pl pu ⟨S, B, b, dx, c, hx, w⟩
  unfold sliOp at w
  split at w
  · obtain ⟨a1, xs1, rfl, e1, z1, l1⟩ := hx.list
    exact sl_list pins s σ H _ v vl vu lo hi sl Q I rx hs pl pu ⟨a1, xs1, rfl, SqL.of e1, fun p hp => w _ _ (.alloc hp) (.new (b := b) c .refl hp (Nat.le_trans cut_le z1) (cut_dn l1 _ _))⟩
  · obtain ⟨a1, o1, xs1, rfl, e1, k1, n1, z1, l1⟩ := hx.tuple
    rename_i ds
    have hq : SqT X.K H a1 xs1 := .inl (.inr ⟨o1, e1⟩)
    cases rx
    obtain ⟨its, r, ht, hz⟩ := I.tuple hq
    have hlen : its.toArray.size = xs1.length := by rw [List.size_toArray]; exact r.length.symm
    refine ⟨"tuple", _, PyProof.Rows.slot_tuple_getitem.lookup, ht.typeIs, ?_⟩
    by_cases hw : HT.sIx xs1.length 0 lo = 0 ∧ HT.sIx xs1.length xs1.length hi = xs1.length
    · refine getItem_tuple_whole ht hs pl pu (by rw [hlen]; exact hw) ⟨.ref a1, H, I, rfl, w _ _ .refl (.flat ?_ fun _ e => nomatch e)⟩
      have e : cutD ds lo hi = ds := by
        unfold cutD
        rw [← l1.length, hw.1, hw.2, List.drop_zero, Nat.sub_zero, l1.length, List.take_length]
      rw [e]
      exact .tup e1 k1 n1 z1 l1
    · refine HT.getItem_tuple_cut ht hs pl pu (by rw [hlen]; exact hw) ?_ (by rw [hlen]; exact hz)
      rw [hlen]
      have hp : H s.heap.objs.size = none := I.hok.fresh (Nat.le_refl _)
      refine ⟨.ref s.heap.objs.size, _, Inv_tupNew (t' := s.toks) (xs := cutV xs1 lo hi) I (fun b ob q => Heap.get?_push_of_some _ q) (Nat.le_refl _) (Nat.le_trans (cutV_length xs1 lo hi) hz) ((r.drop (HT.sIx xs1.length 0 lo)).take (HT.sIx xs1.length xs1.length hi - HT.sIx xs1.length 0 lo)) (Heap.get?_push_size _ rfl), rfl, ?_⟩
      exact w _ _ (.alloc hp) (.tup (b := b) c .refl hp rfl (Nat.le_trans cut_le z1) (cut_dn l1 _ _))
  · exact w.elim
end
end RG
end

section
set_option Elab.async false
set_option linter.all false
set_option maxRecDepth 100000
set_option maxHeartbeats 4000000
/-! Turned slices, built-in calls, by data. -/
namespace HT
open PySem PySem.Spec PyProof.Rows L2
section
variable {prog : Program} {w : World} {A : Around} {E : Value → Shared → Prop} {s : Shared}
theorem sliceApplied_rev {sl : Addr} {vl vu vs : Value} {n : Nat} {Q : Int × Int × Nat → Shared → Prop} (hs : s.heap.IsSliceOf sl vl vu vs) (pl : IsPart vl none) (pu : IsPart vu none) (ps : IsPart vs (some (-1)))
    (h : Q ((n : Int) - 1, -1, n) s) : wpAny (model prog w) A (Builtin.Slice.sliceApplied (.ref sl) (pure (n : Int))) Q E s := by
  obtain ⟨os, hos, hcs, hds⟩ := id hs
  unfold Builtin.Slice.sliceApplied Builtin.Slice.sliceFields
  refine wpAny_bind (wpAny_bind (wpAny_field hos hds (x := vl) rfl (wpAny_bind (wpAny_field hos hds (x := vu) rfl (wpAny_bind (wpAny_field hos hds (x := vs) rfl (wpAny_pure ?_)))))))
  refine wpAny_bind (slicePart_ ps ?_)
  show wpAny _ _ (if ((-1 : Int) == 0) = true then _ else _) _ _ s
  rw [if_neg (by decide)]
  refine wpAny_bind (slicePart_ pl (wpAny_bind (slicePart_ pu (wpAny_bind (wpAny_pure ?_)))))
  show wpAny _ _ (match Builtin.Slice.sliceAdjust none none (-1) (n : Int) with | (lo, hi) => pure (lo, (-1 : Int), Builtin.Slice.slicePlaces lo hi (-1))) _ _ s
  have e : Builtin.Slice.sliceAdjust none none (-1) (n : Int) = ((n : Int) - 1, -1) := rfl
  rw [e]
  show wpAny _ _ (pure ((n : Int) - 1, (-1 : Int), Builtin.Slice.slicePlaces ((n : Int) - 1) (-1) (-1))) _ _ s
  have e2 : Builtin.Slice.slicePlaces ((n : Int) - 1) (-1) (-1) = n := by
    unfold Builtin.Slice.slicePlaces
    have h1 : ¬ ((-1 : Int) > 0) := by omega
    simp only [h1, if_false]
    have h2 : -(-1 : Int) = 1 := by omega
    rw [h2, Int.ediv_one]
    split <;> omega
  rw [e2]
  exact wpAny_pure h
theorem fm_map {α β : Type} (f : α → Option β) (g : α → β) : ∀ (l : List α), (∀ m ∈ l, f m = some (g m)) → l.filterMap f = l.map g
  | [], _ => rfl
  | a :: r, h => by
    rw [List.filterMap_cons, h a List.mem_cons_self, List.map_cons, fm_map f g r fun m hm => h m (List.mem_cons_of_mem _ hm)]
theorem pick_rev (xs : Array Value) : ((List.range xs.size).filterMap fun (m : Nat) => xs[((xs.size : Int) - 1 + (m : Int) * -1).toNat]?) = xs.toList.reverse := by
  apply List.ext_getElem?
  intro i
  have e : (fun (m : Nat) => xs[((xs.size : Int) - 1 + (m : Int) * -1).toNat]?) = fun m => xs.toList[xs.size - 1 - m]? := by
    funext m
    have : ((xs.size : Int) - 1 + (m : Int) * -1).toNat = xs.size - 1 - m := by omega
    rw [this, Array.getElem?_toList]
  rw [e]
  have key : ((List.range xs.size).filterMap fun m => xs.toList[xs.size - 1 - m]?) = (List.range xs.size).map fun m => xs.toList.getD (xs.size - 1 - m) .none := by
    refine fm_map _ _ _ fun m hm => ?_
    have hm := List.mem_range.mp hm
    have hlt : xs.size - 1 - m < xs.toList.length := by rw [Array.length_toList]; omega
    rw [List.getElem?_eq_getElem hlt]
    show _ = some _
    rw [List.getD_eq_getElem?_getD, List.getElem?_eq_getElem hlt]
    rfl
  rw [key, List.getElem?_map]
  by_cases hi : i < xs.size
  · rw [List.getElem?_range hi, List.getElem?_reverse (by rw [Array.length_toList]; exact hi)]
    have hlt : xs.size - 1 - i < xs.toList.length := by rw [Array.length_toList]; omega
    show some (xs.toList.getD (xs.size - 1 - i) .none) = _
    rw [List.getD_eq_getElem?_getD, Array.length_toList, List.getElem?_eq_getElem hlt]
    rfl
  · rw [List.getElem?_eq_none (by rw [List.length_range]; omega), List.getElem?_eq_none (by rw [List.length_reverse, Array.length_toList]; omega)]
    rfl
theorem getItem_tuple_rev {t sl : Addr} {items : Array Value} {vl vu vs : Value} {Q : Value → Shared → Prop} (ht : IsTup s.heap t items) (hs : s.heap.IsSliceOf sl vl vu vs) (pl : IsPart vl none) (pu : IsPart vu none) (ps : IsPart vs (some (-1)))
    (h : Q (.ref s.heap.objs.size) { s with heap := s.heap.push { cls := .type "tuple", data := .seq items.toList.reverse.toArray } })
    (hsz : items.size ≤ sizeLine) : wpAny (model prog w) A (getItem (.ref t) (.ref sl)) Q E s := by
  have htake : sizeOk (.seq items.toList.reverse.toArray) := by
    show items.toList.reverse.toArray.size ≤ sizeLine
    rw [List.size_toArray, List.length_reverse, Array.length_toList]
    exact hsz
  obtain ⟨os, hos, hcs, hds⟩ := id hs
  have hTs : s.TypeIs (.ref sl) "slice" := ⟨os, hos, hcs⟩
  unfold getItem
  try with_reducible refine wpAny_holding ?_
  first | refine wpAny_bind (wpAny_pure ?_) | skip
  refine wpAny_bind (wpAny_sequenceKey ht.typeIs (by decide) ?_)
  refine wpAny_bind (wpAny_callSpecial?_slot (name := Str.ofString "__getitem__") ht.typeIs PyProof.Rows.slot_tuple_getitem
    (wpAny_call_entry PyProof.Rows.slot_tuple_getitem ht.typeIs entry_tuple_getitem ?_ (args_tuple_getitem _ _)))
  show wpAny _ _ (Builtin.Tuple.tupleItemsOf (.ref t) >>= _) _ _ s
  refine wpAny_bind (tupleItemsOf_ ht ?_)
  refine wpAny_bind (wpAny_typeOf hTs ?_)
  rw [if_pos (by decide)]
  refine wpAny_bind (sliceApplied_rev hs pl pu ps ?_)
  show wpAny _ _ (if (((items.size : Int) - 1) == 0 && (-1 : Int) == 1 && items.size == items.size) = true then _ else _) _ _ s
  rw [if_neg (by simp), pick_rev]
  first
    | exact wpAny_bind (m := Builtin.Tuple.tupleExact _) (wpAny_newObj_type (wpAny_pure ⟨_, rfl, wpAny_pure h⟩) htake)
    | exact wpAny_bind (m := Builtin.Tuple.tupleExact _) (wpAny_newObj_type (wpAny_bind (wpAny_pure (wpAny_pure ⟨_, rfl, wpAny_pure h⟩))) htake)
    | exact wpAny_bind (wpAny_bind (m := Builtin.Tuple.tupleExact _) (wpAny_newObj_type (wpAny_pure (wpAny_pure ⟨_, rfl, wpAny_pure h⟩)) htake))
    | exact wpAny_bind (wpAny_bind (m := Builtin.Tuple.tupleExact _) (wpAny_newObj_type (wpAny_pure ⟨_, rfl, wpAny_pure h⟩) htake))
end
end HT
namespace RG
open PySem PySem.Spec PySem.Calls PyProof.Rows L2
section
variable {X : Cx}
theorem pe_revD {e : Expr} {te : TE} {k : Nat} {p1 p2 p3 pos : Pos} (he : PE X e te) : PE X (.Subscript e (.Slice none none (some (.UnaryOp .USub (.Constant (.int 1) k p1) p2)) p3) pos)
    (fun σ H Q => te σ H fun x H1 => (∃ a xs, x = .ref a ∧ SqL X.K H1 a xs ∧ ∀ p, H1 p = none → Q (.ref p) (upd H1 p (.lst xs.reverse))) ∨
      (∃ a xs, x = .ref a ∧ SqT X.K H1 a xs ∧ ∀ p o, H1 p = none → o.dict = none → Q (.ref p) (upd H1 p (.frz o (.tup xs.reverse))))) := by
  refine ⟨fun pins s σ H Q I h => ?_⟩
  refine Subscript_ (thn (he.run pins s σ H _ I h) fun v s1 ⟨x, H1, I1, r1, q1⟩ => ?_)
  obtain ⟨a, ex⟩ : ∃ a, x = V.ref a := by
    rcases q1 with ⟨a, xs, ex, _⟩ | ⟨a, xs, ex, _⟩ <;> exact ⟨a, ex⟩
  subst ex
  cases r1
  have hst : PO X (some (.UnaryOp .USub (.Constant (.int 1) k p1) p2)) (tPart (tUn (rU fun i => .int (-i)) (tC (.int 1)))) := po_some (pe_un un_neg pe_int)
  refine wpAny_Slice (thn (po_none.run pins s1 σ H1 (fun o H2 => o = none ∧ H2 = H1) I1 ⟨rfl, rfl⟩) fun vl s2 ⟨l, H2, I2, pl, el, e2⟩ => ?_)
  subst el e2
  refine thn (po_none.run pins s2 σ H2 (fun o H3 => o = none ∧ H3 = H2) I2 ⟨rfl, rfl⟩) fun vu s3 ⟨u, H3, I3, pu, eu, e3⟩ => ?_
  subst eu e3
  refine thn (hst.run pins s3 σ H3 (fun o H4 => o = some (-1) ∧ H4 = H3) I3 ⟨1, rfl, -1, rfl, rfl, rfl⟩) fun vs s4 ⟨o, H4, I4, ps, eo, e4⟩ => ?_
  subst eo e4
  have I5 : Inv X pins σ H4 { s4 with heap := s4.heap.push { cls := .type "slice", data := .fields #[vl, vu, vs] } } := I4.kept (t' := s4.toks) fun b ob q => Heap.get?_push_of_some _ q
  show wpAny (model X.prog X.w) X.A (subscriptTail e (.Slice none none (some (.UnaryOp .USub (.Constant (.int 1) k p1) p2)) p3) (.ref a) (.ref s4.heap.objs.size)) (EP X pins σ Q) X.xe { s4 with heap := s4.heap.push { cls := .type "slice", data := .fields #[vl, vu, vs] } }
  rcases q1 with ⟨a', xs, ex, hx, q⟩ | ⟨a', xs, ex, hx, q⟩
  · cases ex
    obtain ⟨its, r, ht, hz⟩ := I5.list hx
    have hlen := r.length
    refine tail_any (ops := [.ref a, .ref s4.heap.objs.size]) ht.isList.typeIs (PySem.slot_list_getitem.lookup) ?_ (by with_unfolding_all rfl)
    refine wpAny_getItem_list_slice ht.isList (Heap.IsSliceOf.new _ vl vu vs) pl pu ps (by decide) ?_ (by rw [List.size_toArray]; omega)
    rw [PySem.W.krv_pick]
    refine ⟨.ref _, _, I5.laid (t' := s4.toks) (o := .lst xs.reverse) (fun b ob q => Heap.get?_push_of_some _ q) (Nat.le_refl _) ?_, rfl, q _ (I5.hok.fresh (Nat.le_refl _))⟩
    exact ⟨by rw [List.length_reverse]; exact hz, _, 0, r.reverse, Heap.get?_push_size _ rfl⟩
  · cases ex
    obtain ⟨its, r, ht, hz⟩ := I5.tuple hx
    have hlen := r.length
    refine tail_any (ops := [.ref a, .ref s4.heap.objs.size]) ht.typeIs (PyProof.Rows.slot_tuple_getitem.lookup) ?_ (by with_unfolding_all rfl)
    refine HT.getItem_tuple_rev ht (Heap.IsSliceOf.new _ vl vu vs) pl pu ps ?_ (by rw [List.size_toArray]; omega)
    exact ⟨.ref _, _, Inv_tupNew (t' := s4.toks) I5 (fun b ob q => Heap.get?_push_of_some _ q) (Nat.le_refl _) (by rw [List.length_reverse]; exact hz) r.reverse (Heap.get?_push_size _ rfl), rfl, q _ _ (I5.hok.fresh (Nat.le_refl _)) rfl⟩

/-! ### built-in calls -/
def rFn (fr : Bool) (f : List PyData → T PyData) : List V → Hp → VK → Prop := fun xs H Q => ∃ S B b ds, Ctx S B H ∧ DnTL S B H xs ds ∧ (f ds).wp b fun d b' => ∀ v H', Ext S b b' H H' → Res fr B H H' v d → Q v H'
theorem tl1 {S B : Ads} {H : Hp} {xs : List V} {d : PyData} (h : DnTL S B H xs [d]) : ∃ v, xs = [v] ∧ DnT S B H v d := by
  cases h with
  | cons a b => cases b; exact ⟨_, rfl, a⟩
theorem cf_len : CallR X (.builtin "len") (rFn false fnLen) := by
  intro pins s σ H xs us Q I r ⟨S, B, b, ds, c, h, w⟩
  unfold fnLen at w
  split at w
  · obtain ⟨v, rfl, h0⟩ := tl1 h
    obtain ⟨a1, xs1, rfl, e1, z1, l1⟩ := h0.list
    exact call_len pins s σ H _ us Q I r ⟨_, _, rfl, .inl ⟨xs1, SqL.of e1, rfl⟩, by rw [l1.length]; exact w _ _ .refl .int⟩
  · obtain ⟨v, rfl, h0⟩ := tl1 h
    obtain ⟨a1, o1, xs1, rfl, e1, k1, n1, z1, l1⟩ := h0.tuple
    exact call_len pins s σ H _ us Q I r ⟨_, _, rfl, .inr ⟨xs1, .inl (.inr ⟨o1, e1⟩), rfl⟩, by rw [l1.length]; exact w _ _ .refl .int⟩
  · obtain ⟨v, rfl, h0⟩ := tl1 h
    obtain rfl := h0.str
    obtain ⟨h1, w⟩ := wp_chk w
    exact call_len pins s σ H _ us Q I r ⟨_, _, rfl, ⟨by rw [line_eq]; exact small_le h1, rfl⟩, w _ _ .refl .int⟩
  · exact w.elim
theorem cf_abs : CallR X (.builtin "abs") (rFn false fnAbs) := by
  intro pins s σ H xs us Q I r ⟨S, B, b, ds, c, h, w⟩
  unfold fnAbs at w
  split at w
  · obtain ⟨v, rfl, h0⟩ := tl1 h
    obtain rfl := h0.int
    exact call_abs pins s σ H _ us Q I r ⟨_, rfl, w _ _ .refl .int⟩
  · exact w.elim
theorem cf_sum (hc : X.calm = true) : CallR X (.builtin "sum") (rFn false fnSum) := by
  intro pins s σ H xs us Q I r ⟨S, B, b, ds, c, h, w⟩
  unfold fnSum at w
  split at w
  · split at w
    · rename_i ns hn
      obtain ⟨v, rfl, h0⟩ := tl1 h
      obtain ⟨a1, xs1, rfl, e1, z1, l1⟩ := h0.list
      have e := l1.ints hn
      subst e
      exact cr_sum hc pins s σ H _ us Q I r ⟨_, ns, rfl, SqL.of e1, w _ _ .refl .int⟩
    · exact w.elim
  · exact w.elim
theorem cf_all (hc : X.calm = true) : CallR X (.builtin "all") (rFn false fnAll) := by
  intro pins s σ H xs us Q I r ⟨S, B, b, ds, c, h, w⟩
  unfold fnAll at w
  split at w
  · split at w
    · rename_i ns hn
      obtain ⟨v, rfl, h0⟩ := tl1 h
      obtain ⟨a1, xs1, rfl, e1, z1, l1⟩ := h0.list
      have e := l1.bools hn
      subst e
      exact cr_all hc pins s σ H _ us Q I r ⟨_, ns, rfl, SqL.of e1, w _ _ .refl .bl⟩
    · exact w.elim
  · exact w.elim
theorem cf_tuple : CallR X (.type "tuple") (rFn false fnTuple) := by
  intro pins s σ H xs us Q I r ⟨S, B, b, ds, c, h, w⟩
  unfold fnTuple at w
  split at w
  · obtain ⟨v, rfl, h0⟩ := tl1 h
    obtain ⟨a1, xs1, rfl, e1, z1, l1⟩ := h0.list
    obtain ⟨u, rfl, rx⟩ := vals1 r
    cases rx
    have hq : SqL X.K H a1 xs1 := SqL.of e1
    obtain ⟨its, r', pl, hz⟩ := I.list hq
    have hlen := r'.length
    refine call_tuple_list pl.isList (fun h' kp => ?_) (by simp only [List.size_toArray] <;> omega)
    have I1 : Inv X pins σ H { s with heap := h' } := I.kept (t' := s.toks) kp
    have hp := I1.hok.fresh (Nat.le_refl _)
    have I2 : L2.Inv X pins σ (upd H h'.objs.size (.frz { cls := .type "tuple", data := .seq its.toArray } (.tup xs1))) { s with heap := h'.push { cls := .type "tuple", data := .seq its.toArray } } :=
      Inv_tupNew (s := { s with heap := h' }) (t' := s.toks) I1 (fun b o e => Heap.get?_push_of_some _ e) (Nat.le_refl _) hz r' (Heap.get?_push_size _ rfl)
    exact ⟨.ref h'.objs.size, _, I2, rfl, w _ _ (.alloc hp) (.tup (b := b) c .refl hp rfl z1 l1)⟩
  · obtain ⟨v, rfl, h0⟩ := tl1 h
    obtain ⟨a1, o1, xs1, rfl, e1, k1, n1, z1, l1⟩ := h0.tuple
    exact call_tupleT pins s σ H _ us Q I r ⟨a1, xs1, rfl, .inl (.inr ⟨o1, e1⟩), w _ _ .refl (.of (.tup e1 k1 n1 z1 l1))⟩
  · exact w.elim
theorem cf_repr (hu : X.A.units + 70 < cLine) (hg : X.A.guards = some []) : CallR X (.builtin "repr") (rFn false fnRepr) := by
  intro pins s σ H xs us Q I r ⟨S, B, b, ds, c, h, w⟩
  unfold fnRepr at w
  split at w
  · obtain ⟨v, rfl, h0⟩ := tl1 h
    obtain ⟨h1, w⟩ := wp_chk w
    unfold rok at h1
    rw [Bool.and_eq_true, Bool.and_eq_true, Bool.and_eq_true] at h1
    obtain ⟨⟨⟨h1, h2⟩, h3⟩, h4⟩ := h1
    have h3 := of_decide_eq_true h3
    rename_i d _ _
    have h4 : d.shown.length ≤ (sizeLine : Nat) := by rw [line_eq]; exact small_le h4
    obtain ⟨u, rfl, rx⟩ := vals1 r
    obtain ⟨as, rd⟩ := Dp.reads I _ _ _ (h0.dp (K := X.K)) rx
    have fin : ∀ h' tk t, (∀ b o, s.heap.get? b = some o → h'.get? b = some o) → EP X pins σ Q (.str (PyData.shown _) t) { s with heap := h', toks := tk } := fun h' tk t hk => ⟨.str _, H, I.kept hk, ⟨_, rfl⟩, w _ _ .refl .str⟩
    cases d with
    | none =>
      obtain rfl := h0.non
      cases rx
      exact PySem.P.repr_of_none (fin s.heap _ _ fun _ _ q => q)
    | bool k =>
      obtain rfl := h0.bl
      cases rx
      exact PySem.P.repr_of_bool (fin s.heap _ _ fun _ _ q => q)
    | int i =>
      obtain rfl := h0.int
      obtain ⟨t, rfl⟩ := rx
      exact PySem.P.repr_of_int (of_decide_eq_true (by simpa [PyData.showable] using h1)) (fin s.heap _ _ fun _ _ q => q)
    | str i =>
      obtain rfl := h0.str
      obtain ⟨t, rfl⟩ := rx
      exact PySem.P.repr_of_str (fin s.heap _ _ fun _ _ q => q) h4
    | list i =>
      obtain ⟨a1, xs1, rfl, e1, z1, l1⟩ := h0.list
      cases rx
      exact repr_of_reads' rd h1 (fun e => by rw [e] at h2; cases h2) hg (by omega) (fun _ _ e => e) (fun h' u tk hk => fin h' tk u hk) h4
    | tuple i =>
      obtain ⟨a1, o1, xs1, rfl, e1, k1, n1, z1, l1⟩ := h0.tuple
      cases rx
      exact repr_of_reads' rd h1 (fun e => by rw [e] at h2; cases h2) hg (by omega) (fun _ _ e => e) (fun h' u tk hk => fin h' tk u hk) h4
    | dict i => exact h0.nodict.elim
  · exact w.elim
end
end RG
end

section
set_option Elab.async false
set_option linter.all false
set_option maxRecDepth 100000
set_option maxHeartbeats 4000000
/-! sorted of a tuple, methods, isinstance, truth, by data. -/
namespace SrtO
open PySem PyProof.Rows Srt
section
variable {prog : Program} {w : World} {A : Around} {E : Value → Shared → Prop} {s : Shared}
theorem collect_tup {l : Addr} {vs : List Value} {Q : List Value → Shared → Prop} (hl : s.heap.IsTuple l vs.toArray)
    (h : Q vs { s with heap := (s.heap.push (seqObj "list" #[] 0)).update s.heap.objs.size (Obj.mapSeq (· ++ vs.toArray)) }) (hsz : vs.length ≤ sizeLine := by size_fits) :
    wpAny (model prog w) A (collect (.ref l)) Q E s := by
  obtain ⟨o, ho, hc, n, hd⟩ := id hl
  unfold collect
  refine wpAny_bind (wpAny_runValue (codeAny_builtin entry_proto_collect' ?_))
  show wpAny _ _ (do again (.builtin "list.__iadd__" ⟨[← newList [], .ref l], []⟩)) _ _ s
  refine wpAny_bind (wpAny_newList (wpAny_pure ⟨Code.quiet_builtin _ (by decide +kernel), codeAny_builtin entry_list_iadd' ?_⟩))
  show wpAny _ _ (Builtin.List.listExtendWith (.ref s.heap.objs.size) (.ref l) (.ref s.heap.objs.size)) _ _ { s with heap := s.heap.push (seqObj "list" #[] 0) }
  unfold Builtin.List.listExtendWith
  have ho' : (s.heap.push (seqObj "list" #[] 0)).get? l = some o := Heap.get?_push_of_some _ ho
  refine wpAny_bind (wpAny_typeOf (T := "tuple") ⟨o, ho', hc⟩ ?_)
  have ht : (Value.type "tuple" == Value.type "tuple") = true := by rfl
  rw [if_pos (by rw [ht]; simp)]
  refine wpAny_bind (listItems_at ho' hd ?_)
  refine wpAny_bind (listItems_at (xs := #[]) (n := 0) (Heap.get?_push_size _ rfl) rfl ?_)
  rw [if_neg (by simp)]
  refine wpAny_bind (listUpdate_at (xs := #[]) (n := 0) (Heap.get?_push_size _ rfl) rfl ?_ (Nat.zero_le _) (by show (#[] ++ vs.toArray).size ≤ sizeLine + 1; simp only [Array.size_append, List.size_toArray, List.length_nil]; omega))
  refine wpAny_pure ?_
  show wpAny (model prog w) A (do
      let o ← load s.heap.objs.size
      match o.data with
      | .seq xs _ => pure xs.toList
      | _ => unsupported "internal:collect") Q E { s with heap := (s.heap.push (seqObj "list" #[] 0)).update s.heap.objs.size (Obj.mapSeq (· ++ vs.toArray)) }
  refine wpAny_bind (wpAny_load (get?_update_seq (Heap.get?_push_size _ rfl) _) ?_)
  show wpAny _ _ (pure ((#[] : Array Value) ++ vs.toArray).toList) Q E _
  rw [show ((#[] : Array Value) ++ vs.toArray).toList = vs by simp]
  exact wpAny_pure h
theorem sorted_ordT {l : Addr} {vs : List Value} {ltv : Value → Value → Bool} {Q : Value → Shared → Prop} (O : Swo ltv) (hl : s.heap.IsTuple l vs.toArray) (hz : vs.length ≤ sizeLine)
    (hS : 2 ≤ vs.length → ∀ (h₁ : Heap) (a : Addr), h₁.get? a = some (seqObj "list" vs.toArray 0) → (∀ b o, s.heap.get? b = some o → b ≠ a ∧ h₁.get? b = some o) → SortableO prog w A.in1.in1 { s with heap := h₁ } a vs ltv)
    (h : ∀ out : List Value, Srtd ltv out → Stb ltv out vs → Q (.ref (s.heap.objs.size + 1)) { s with heap := sortedAll s.heap vs out.toArray }) :
    wpAny (model prog w) A (call (.builtin "sorted") [.ref l]) Q E s := by
  refine Calls.call_function_entry kind_sorted plain_sorted entry_sorted (args_sorted1 _) ?_
  unfold Builtin.«sorted»
  refine wpAny_bind (m := checkCount "sorted" 1 1 _) (wpAny_pure ?_)
  refine wpAny_bind (collect_tup hl ?_ hz)
  refine wpAny_bind (wpAny_newList ?_ hz)
  have hsz : ((s.heap.push (seqObj "list" #[] 0)).update s.heap.objs.size (Obj.mapSeq (· ++ vs.toArray))).objs.size = s.heap.objs.size + 1 := by
    rw [Heap.size_update, size_push']
  have hoL : (((s.heap.push (seqObj "list" #[] 0)).update s.heap.objs.size (Obj.mapSeq (· ++ vs.toArray))).push (seqObj "list" vs.toArray 0)).get? (s.heap.objs.size + 1) = some (seqObj "list" vs.toArray 0) := by
    rw [← hsz]; exact Heap.get?_push_size _ rfl
  have keep : ∀ b o, s.heap.get? b = some o → b ≠ s.heap.objs.size + 1 ∧ (((s.heap.push (seqObj "list" #[] 0)).update s.heap.objs.size (Obj.mapSeq (· ++ vs.toArray))).push (seqObj "list" vs.toArray 0)).get? b = some o := fun b o q => by
    have hlt : b < s.heap.objs.size := Heap.lt_size q
    refine ⟨Nat.ne_of_lt (Nat.lt_succ_of_lt hlt), Heap.get?_push_of_some _ ?_⟩
    rw [Heap.get?_update_ne _ _ _ _ (Nat.ne_of_lt hlt)]
    exact Heap.get?_push_of_some _ q
  show wpAny _ _ _ _ _ { s with heap := ((s.heap.push (seqObj "list" #[] 0)).update s.heap.objs.size (Obj.mapSeq (· ++ vs.toArray))).push (seqObj "list" vs.toArray 0) }
  rw [hsz]
  refine wpAny_bind (wpAny_holding (wpAny_call_entry slot_list_sort ⟨_, hoL, rfl⟩ entry_list_sort (list_sort_ord O hoL hz (fun h2 => hS h2 _ _ hoL keep) fun out hs hb => ⟨_, rfl, ?_⟩) (args_list_sort _)))
  exact wpAny_pure ⟨_, rfl, h out hs hb⟩
end
end SrtO
namespace RG
open PySem PySem.Spec PySem.Calls PyProof.Rows L2
theorem sortI_spec (ns : List Int) : (sortI ns).Perm ns ∧ (sortI ns).Pairwise (· ≤ ·) := by
  refine ⟨List.mergeSort_perm _ _, ?_⟩
  have h := List.pairwise_mergeSort (le := fun a b : Int => decide (a ≤ b)) (fun a b c h1 h2 => by simp only [decide_eq_true_eq] at *; omega) (fun a b => by simp only [Bool.or_eq_true, decide_eq_true_eq]; omega) ns
  exact h.imp fun h => of_decide_eq_true h
theorem sortI_eq {ns ns' : List Int} (h1 : ns'.Perm ns) (h2 : ns'.Pairwise (· ≤ ·)) : ns' = sortI ns := PySem.W.ksm_same (h1.trans (sortI_spec ns).1.symm) h2 (sortI_spec ns).2
section
variable {X : Cx}
theorem cr_sortedIT : CallR X (.builtin "sorted") (fun vs H Q => ∃ (a : Addr) (ns : List Int), vs = [V.ref a] ∧ SqT X.K H a (ns.map V.int) ∧ ∀ (ns' : List Int) (p : Addr), ns'.Perm ns → ns'.Pairwise (· ≤ ·) → H p = none → Q (.ref p) (upd H p (.lst (ns'.map V.int)))) := by
  intro pins s σ H vs us Q I r h
  obtain ⟨a, ns, rfl, hs, q⟩ := h
  obtain ⟨its, rv, hl, hz⟩ := I.tuple hs
  rw [Vals.ref1 r]
  have hi := rv.ints
  refine SrtO.sorted_ordT SrtO.swo_int hl (by rw [← rv.length]; exact hz) (fun h2 h₁ a' _ _ => SrtO.ints_sortable hi h2) fun out h1 h2 => ?_
  obtain ⟨k1, k2, k3⟩ := SrtO.ints_out hi h1 h2
  obtain ⟨ep, he'⟩ := PyProof.Rows.sortedAll_at s.heap its out.toArray
  have hlen : ((out.map SrtO.iv).map V.int).length ≤ sizeLine := by
    rw [List.length_map, k2.length_eq]
    rw [List.length_map] at hz
    exact hz
  exact ⟨.ref _, upd H (s.heap.objs.size + 1) (.lst ((out.map SrtO.iv).map V.int)), I.laid (t' := s.toks) (fun _ _ => PyProof.Rows.sortedAll_old) (Nat.le_succ _) ⟨hlen, out, ep, vals_of_ints k1, he'⟩, rfl, q _ _ k2 k3 (I.hok.fresh (Nat.le_succ _))⟩
theorem asInts_len : ∀ {ds : List PyData} {ns : List Int}, asInts ds = some ns → ns.length = ds.length
  | [], ns, e => by
    have e' : some [] = some ns := e
    cases e'
    rfl
  | d :: ds, ns, e => by
    cases d with
    | int i =>
      have e' : (asInts ds).map (i :: ·) = some ns := e
      cases q : asInts ds with
      | none => rw [q] at e'; cases e'
      | some ms =>
        rw [q] at e'
        cases e'
        rw [List.length_cons, List.length_cons, asInts_len q]
    | _ => exact absurd e (by simp [asInts])
theorem cf_sorted : CallR X (.builtin "sorted") (rFn true fnSorted) := by
  intro pins s σ H xs us Q I r ⟨S, B, b, ds, c, h, w⟩
  unfold fnSorted at w
  have fin : ∀ {ds : List PyData} {ns : List Int} {ns' : List Int} {p : Addr}, asInts ds = some ns → ds.length ≤ 16777216 → ns'.Perm ns → ns'.Pairwise (· ≤ ·) → H p = none →
      (T.ret (PyData.list ((sortI ns).map .int))).wp b (fun d b' => ∀ v H', Ext S b b' H H' → Res true B H H' v d → Q v H') → Q (.ref p) (upd H p (.lst (ns'.map V.int))) := fun {ds ns ns' p} hn hz h1 h2 hp w => by
    have e := sortI_eq h1 h2
    subst e
    refine w _ _ (.alloc hp) (.new (b := b) c .refl hp ?_ (.of_ints _))
    rw [List.length_map, (sortI_spec ns).1.length_eq, asInts_len hn]
    exact hz
  split at w
  · split at w
    · rename_i ns hn
      obtain ⟨v, rfl, h0⟩ := tl1 h
      obtain ⟨a1, xs1, rfl, e1, z1, l1⟩ := h0.list
      have e := l1.ints hn
      subst e
      exact cr_sortedI pins s σ H _ us Q I r ⟨_, ns, rfl, SqL.of e1, fun ns' p h1 h2 hp => fin hn z1 h1 h2 hp w⟩
    · exact w.elim
  · split at w
    · rename_i ns hn
      obtain ⟨v, rfl, h0⟩ := tl1 h
      obtain ⟨a1, o1, xs1, rfl, e1, k1, n1, z1, l1⟩ := h0.tuple
      have e := l1.ints hn
      subst e
      exact cr_sortedIT pins s σ H _ us Q I r ⟨_, ns, rfl, .inl (.inr ⟨o1, e1⟩), fun ns' p h1 h2 hp => fin hn z1 h1 h2 hp w⟩
    · exact w.elim
  · exact w.elim

/-! ### methods -/
def tyD (T : String) (x : V) (H : Hp) : Prop := match x with
  | .str _ => T = "str"
  | .int _ => T = "int"
  | .ref p => (T = "list" ∧ ∃ xs, H p = some (.lst xs)) ∨ (T = "tuple" ∧ ∃ o xs, H p = some (.frz o (.tup xs)) ∧ o.dict = none)
  | _ => False
theorem tyD_is {pins : List (Addr × Obj)} {σ : L2.St} {H : Hp} {s : Shared} {T : String} {x : V} {v : Value} (I : L2.Inv X pins σ H s) (r : RelV x v) (ty : tyD T x H) :
    s.TypeIs v T ∧ ∀ a, v = .ref a → ∃ ob, s.heap.get? a = some ob ∧ ob.dict = none := by
  cases x with
  | str z =>
    obtain ⟨t, rfl⟩ := r
    cases (show T = "str" from ty)
    exact ⟨typeIs_str s z t, fun _ e => nomatch e⟩
  | int i =>
    obtain ⟨t, rfl⟩ := r
    cases (show T = "int" from ty)
    exact ⟨typeIs_int s i t, fun _ e => nomatch e⟩
  | ref p =>
    cases r
    rcases ty with ⟨rfl, xs, hq⟩ | ⟨rfl, o, xs, hq, hd⟩
    · obtain ⟨its, _, pl, _⟩ := I.list (SqL.of hq)
      refine ⟨pl.isList.typeIs, fun a e => ?_⟩
      cases e
      obtain ⟨o, n, e, c, hd, _⟩ := pl
      exact ⟨o, e, hd⟩
    · obtain ⟨ho, _, its, _, o', ho', hc, _⟩ := I.hok p _ hq
      rw [ho] at ho'
      cases ho'
      exact ⟨⟨o, ho, hc⟩, fun a e => by cases e; exact ⟨o, ho, hd⟩⟩
  | _ => exact False.elim ty
theorem pe_metD {o e : Expr} {es : List Expr} {to : TE} {t : TA} {name : Str} {apos cpos : Pos} (ho : PE X o to) (ha : PA X (e :: es) t)
    (hbase : attributeBase o name X.env (eval o X.env) = eval o X.env)
    (hfew : ((backTo cpos (starEach (e :: es) X.env)).all (fun x => !x.1) && (backToKw cpos (keywordEach [] X.env)).all (fun x => x.1.isSome)
      && decide ((e :: es).length + ([] : List Keyword).length + (if ([] : List Keyword).isEmpty then 0 else 1) < 30)) = true)
    (hline : (apos.endLine == cpos.line) = true) (hs : starEach (e :: es) X.env = (false, eval e X.env) :: starEach es X.env) (hplain : (backTo cpos (starEach es X.env)).any (·.1) = false) :
    PE X (.Call (.Attribute o name apos) (e :: es) [] cpos) (fun σ H Q => to σ H fun x H1 => ∃ T id r, PlainAttrs T ∧ Slot T name id ∧ typeOf (.builtin id) = pure (.type "method_descriptor") ∧ tyD T x H1 ∧ MtR X id r ∧ t σ H1 fun xs H2 => r x xs H2 Q) := by
  refine ⟨fun pins s σ H Q I h => ?_⟩
  refine wpAny_Call_method_late hbase hfew hline rfl (thn (ho.run pins s σ H _ I h) fun v s1 ⟨x, H1, I1, r1, T, id, r, pa, slot, hty, ty, hm, q1⟩ => ?_)
  obtain ⟨h1, h2⟩ := tyD_is I1 r1 ty
  refine ⟨T, id, pa, slot, hty, h1, h2, ?_⟩
  have hA := ha.run cpos pins s1 σ H1 _ I1 q1
  rw [hs] at hA ⊢
  refine Calls.callWith_builtin (by show (false || (backTo cpos (starEach es X.env)).any (·.1)) = false; rw [hplain] <;> rfl) (Calls.evalArgs_plain ?_)
  exact thn hA fun us s2 ⟨vs, H2, I2, r2, q2⟩ => hm pins s2 σ H2 x vs v us Q I2 r1 r2 q2
def rMet (fr : Bool) (f : PyData → List PyData → T PyData) : V → List V → Hp → VK → Prop := fun x xs H Q => ∃ S B b d ds, Ctx S B H ∧ DnT S B H x d ∧ DnTL S B H xs ds ∧ (f d ds).wp b fun d b' => ∀ v H', Ext S b b' H H' → Res fr B H H' v d → Q v H'
theorem mt_tcount : MtR X "tuple.count" (rMet false metCount) := by
  intro pins s σ H x xs v us Q I rx rxs ⟨S, B, b, d, ds, c, hx, h, w⟩
  unfold metCount at w
  split at w
  · rename_i ds0 k
    split at w
    · rename_i ns hn
      obtain ⟨y, rfl, h0⟩ := tl1 h
      obtain ⟨a1, o1, xs1, rfl, e1, k1, n1, z1, l1⟩ := hx.tuple
      have e := l1.ints hn
      subst e
      obtain rfl := h0.int
      cases rx
      obtain ⟨u, rfl, ru⟩ := rxs.one
      obtain ⟨t, rfl⟩ := ru
      have hq : SqT X.K H a1 (ns.map V.int) := .inl (.inr ⟨o1, e1⟩)
      obtain ⟨its, rv, ⟨⟨cls, dd, data, sl⟩, ho, hc, n, hd⟩, hlen⟩ := I.tuple hq
      simp only at hc hd
      subst hc hd
      have hi := ints_of_vals rv
      refine call_meets PySem.F.slot_tuple_count ⟨_, ho, rfl⟩ PySem.F.entry_tuple_count (PySem.F.args_tuple_count_2 _ _)
        (SeqAt.tuple_countAt a1 its.toArray n dd sl (.int k t) (eqk k)) ⟨ho, fun y hy => (eqk_gives hi y (by simpa using hy)).at _ _, ?_⟩
      have ec : its.toArray.toList.countP (eqk k) = ns.count k := eqk_count hi
      refine ⟨.int (ns.count k : Nat), H, I.tok _, ⟨s.toks, ?_⟩, w _ _ .refl .int⟩
      show Value.int ((its.toArray.toList.countP (eqk k) : Nat) : Int) s.toks = Value.int ((ns.count k : Nat) : Int) s.toks
      rw [ec]
    · exact w.elim
  · exact w.elim

/-! ### isinstance -/
theorem kit_all : (tys.all fun ty => kitB "int" ty == some (ty == "int") && kitB "bool" ty == some (ty == "bool" || ty == "int") && kitB "str" ty == some (ty == "str") && kitB "NoneType" ty == some (ty == "NoneType") && kitB "list" ty == some (ty == "list") && kitB "tuple" ty == some (ty == "tuple")) = true := by decide +kernel
def rIsiD (ty : String) : V → Hp → VK → Prop := fun x H Q => ∃ S B b d, Ctx S B H ∧ DnT S B H x d ∧ (isiOp ty d).wp b fun k b' => ∀ H', Ext S b b' H H' → Q (.bl k) H'
theorem cf_isi {ty : String} (ht : tys.contains ty = true) : CallR X (.builtin "isinstance") (fun xs H Q => ∃ x, xs = [x, .ty ty] ∧ rIsiD ty x H Q) := by
  intro pins s σ H xs us Q I r ⟨x, ex, S, B, b, d, c, hx, w⟩
  subst ex
  have hm : ty ∈ tys := by simpa using ht
  have k := List.all_eq_true.mp kit_all ty hm
  simp only [Bool.and_eq_true] at k
  obtain ⟨⟨⟨⟨⟨k1, k2⟩, k3⟩, k4⟩, k5⟩, k6⟩ := k
  cases d with
  | int i =>
    obtain rfl := hx.int
    exact call_isi pins s σ H _ us Q I r ⟨_, _, _, _, _, rfl, .ty ty, .base (.int i), kit_ty (eq_of_beq k1), w _ .refl⟩
  | bool i =>
    obtain rfl := hx.bl
    exact call_isi pins s σ H _ us Q I r ⟨_, _, _, _, _, rfl, .ty ty, .base (.bl i), kit_ty (eq_of_beq k2), w _ .refl⟩
  | str i =>
    obtain rfl := hx.str
    exact call_isi pins s σ H _ us Q I r ⟨_, _, _, _, _, rfl, .ty ty, .base (.str i), kit_ty (eq_of_beq k3), w _ .refl⟩
  | none =>
    obtain rfl := hx.non
    exact call_isi pins s σ H _ us Q I r ⟨_, _, _, _, _, rfl, .ty ty, .base .non, kit_ty (eq_of_beq k4), w _ .refl⟩
  | list i =>
    obtain ⟨a1, xs1, rfl, e1, z1, l1⟩ := hx.list
    exact call_isi pins s σ H _ us Q I r ⟨_, _, _, _, _, rfl, .ty ty, .base (.lst e1), kit_ty (eq_of_beq k5), w _ .refl⟩
  | tuple i =>
    obtain ⟨a1, o1, xs1, rfl, e1, k1', n1, z1, l1⟩ := hx.tuple
    exact call_isi pins s σ H _ us Q I r ⟨_, _, _, _, _, rfl, .ty ty, .fTuple e1, kit_ty (eq_of_beq k6), w _ .refl⟩
  | dict i => exact w.elim

/-! ### truth -/
theorem tru_D : TruR X (fun x H Q => ∃ S B b d, Ctx S B H ∧ DnT S B H x d ∧ (truth d).wp b fun k b' => ∀ H', Ext S b b' H H' → Q k H') := by
  intro pins s σ H x v Q I rx ⟨S, B, b, d, c, hx, w⟩
  cases d with
  | int i =>
    obtain rfl := hx.int
    exact tru_ok pins s σ H _ v Q I rx ⟨_, rfl, w _ .refl⟩
  | bool i =>
    obtain rfl := hx.bl
    exact tru_ok pins s σ H _ v Q I rx ⟨_, rfl, w _ .refl⟩
  | str i =>
    obtain rfl := hx.str
    obtain ⟨h1, w⟩ := wp_chk w
    refine tru_ok pins s σ H _ v Q I rx ⟨_, ⟨by rw [line_eq]; exact small_le h1, rfl⟩, ?_⟩
    have e : ((i.length : Int) != 0) = (i.length != 0) := by
      rw [Bool.eq_iff_iff]
      simp
    rw [e]
    exact w _ .refl
  | none =>
    obtain rfl := hx.non
    exact tru_ok pins s σ H _ v Q I rx ⟨_, rfl, w _ .refl⟩
  | list i =>
    obtain ⟨a1, xs1, rfl, e1, z1, l1⟩ := hx.list
    refine tru_ok pins s σ H _ v Q I rx ⟨_, .inl ⟨xs1, SqL.of e1, rfl⟩, ?_⟩
    have e : xs1.isEmpty = i.isEmpty := by cases l1 <;> rfl
    rw [e]
    exact w _ .refl
  | tuple i =>
    obtain ⟨a1, o1, xs1, rfl, e1, k1, n1, z1, l1⟩ := hx.tuple
    refine tru_ok pins s σ H _ v Q I rx ⟨_, .inr (.inl ⟨xs1, .inl (.inr ⟨o1, e1⟩), rfl⟩), ?_⟩
    have e : xs1.isEmpty = i.isEmpty := by cases l1 <;> rfl
    rw [e]
    exact w _ .refl
  | dict i => exact w.elim
end
end RG
end

section
set_option Elab.async false
set_option linter.all false
set_option maxRecDepth 100000
set_option maxHeartbeats 4000000
/-! What is walked: a list, a tuple, a text; enumerate and zip of these, each pair a new tuple that is known to the object. -/
namespace RG
open PySem PySem.Spec PySem.Calls PyProof.Rows L2

/-! ### a source: a list, a tuple, a text -/
inductive Sk where
  | l (a : Addr) | t (a : Addr) | s (z : Str)
def Sk.val : Sk → V
  | .l a => .ref a
  | .t a => .ref a
  | .s z => .str z
def signsV (z : Str) : List V := z.cps.toList.map fun c => V.str ⟨#[c]⟩
def Sk.rd (K : PySem.W.Frag) (k : Sk) (H : Hp) (xs : List V) : Prop := match k with
  | .l a => SqL K H a xs
  | .t a => SqT K H a xs
  | .s z => xs = signsV z
def Sk.iter (k : Sk) (h : Heap) (it : Addr) (i : Nat) : Prop := match k with
  | .l a => h.IsListIter it a i
  | .t a => h.IsTupleIter it a i
  | .s z => ∃ t, h.IsStrIter it (strIterType z) z t i
def Sk.apart (k : Sk) (it : Addr) : Prop := match k with
  | .l a => a ≠ it
  | .t a => a ≠ it
  | .s _ => True
def Sk.fp (k : Sk) : List Addr := match k with
  | .l a => [a]
  | .t a => [a]
  | .s _ => []
section
variable {X : Cx} {pins : List (Addr × Obj)} {σ : L2.St} {H : Hp} {s : Shared} {k : Sk} {xs ys : List V}
theorem Sk.inj (I : L2.Inv X pins σ H s) (h : k.rd X.K H xs) (h' : k.rd X.K H ys) : xs = ys := by
  cases k with
  | l a => exact I.list_inj h h'
  | t a => exact I.tuple_inj h h'
  | s z => exact h.trans h'.symm
theorem Sk.iter_keep {h h' : Heap} {it : Addr} {i : Nat} (x : k.iter h it i) (kp : ∀ o, h.get? it = some o → h'.get? it = some o) : k.iter h' it i := by
  cases k with
  | l a => exact Heap.IsListIter.at x fun o e => kp o e
  | t a => exact Heap.IsTupleIter.at x fun o e => kp o e
  | s z => obtain ⟨t, o, e, r⟩ := x; exact ⟨t, o, kp o e, r⟩
theorem Sk.iter_obj {h : Heap} {it : Addr} {i : Nat} (x : k.iter h it i) : ∃ o, h.get? it = some o ∧ ∀ v, o.data ≠ .cell v := by
  cases k with
  | l a => obtain ⟨o, e, c, d⟩ := x; exact ⟨o, e, fun v z => by rw [d] at z; cases z⟩
  | t a => obtain ⟨o, e, c, d⟩ := x; exact ⟨o, e, fun v z => by rw [d] at z; cases z⟩
  | s z => obtain ⟨t, o, e, c, d⟩ := x; exact ⟨o, e, fun v z => by rw [d] at z; cases z⟩
/-- what its iterator draws, at this state -/
theorem Sk.draws {A : Around} {it : Addr} {i : Nat} (hh : A.handled = none) (I : L2.Inv X pins σ H s) (h : k.rd X.K H xs) (x : k.iter s.heap it i) (ap : k.apart it) :
    ∃ (P : Nat → Value → Prop) (St : Nat → Heap → Prop), Draws X.prog X.w A it (it :: k.fp) xs.length P St ∧ St i s.heap ∧ (∀ j u, P j u → ∃ y, xs[j]? = some y ∧ RelV y u) ∧ (∀ j h', St j h' → k.iter h' it j) := by
  cases k with
  | l a =>
    obtain ⟨its, rv, p, hz⟩ := I.list h
    have D := Draws.list (prog := X.prog) (w := X.w) (A := A) hh it a ap its.toArray
    have e : its.toArray.size = xs.length := by rw [List.size_toArray]; exact rv.length.symm
    rw [e] at D
    refine ⟨_, _, D, ⟨x, p.isList⟩, fun j u hu => ?_, fun j h' st => st.1⟩
    have hu : its[j]? = some u := by simpa using hu
    have hj : j < xs.length := by
      have := (List.getElem?_eq_some_iff.mp hu).1
      rw [rv.length]; exact this
    obtain ⟨u', h1, h2⟩ := rv.get (List.getElem?_eq_getElem hj)
    rw [hu] at h1
    cases h1
    exact ⟨_, List.getElem?_eq_getElem hj, h2⟩
  | t a =>
    obtain ⟨its, rv, p, hz⟩ := I.tuple h
    have D := Draws.tuple (prog := X.prog) (w := X.w) (A := A) hh it a ap its.toArray
    have e : its.toArray.size = xs.length := by rw [List.size_toArray]; exact rv.length.symm
    rw [e] at D
    refine ⟨_, _, D, ⟨x, p⟩, fun j u hu => ?_, fun j h' st => st.1⟩
    have hu : its[j]? = some u := by simpa using hu
    have hj : j < xs.length := by
      have := (List.getElem?_eq_some_iff.mp hu).1
      rw [rv.length]; exact this
    obtain ⟨u', h1, h2⟩ := rv.get (List.getElem?_eq_getElem hj)
    rw [hu] at h1
    cases h1
    exact ⟨_, List.getElem?_eq_getElem hj, h2⟩
  | s z =>
    obtain ⟨t, x⟩ := x
    have D := Draws.text (prog := X.prog) (w := X.w) (A := A) hh it z t
    have e : z.cps.size = xs.length := by rw [show xs = signsV z from h]; simp [signsV]
    rw [e] at D
    refine ⟨_, _, D, x, fun j u ⟨c, tk, hc, hu⟩ => ⟨.str ⟨#[c]⟩, ?_, ⟨tk, hu⟩⟩, fun j h' st => ⟨t, st⟩⟩
    rw [show xs = signsV z from h]
    unfold signsV
    rw [List.getElem?_map, Array.getElem?_toList, hc]
    rfl
/-- its iterator begins -/
theorem Sk.begins {u : Value} (I : L2.Inv X pins σ H s) (h : k.rd X.K H xs) (r : RelV k.val u) : ∃ o Hb, Begins u o Hb ∧ Hb s.heap ∧ ∀ h' : Heap, ∀ it, h'.get? it = some o → k.iter h' it 0 := by
  cases k with
  | l a =>
    cases r
    obtain ⟨its, rv, p, hz⟩ := I.list h
    exact ⟨_, _, begins_list a its.toArray, p.isList, fun h' it e => ⟨_, e, rfl, rfl⟩⟩
  | t a =>
    cases r
    obtain ⟨its, rv, p, hz⟩ := I.tuple h
    exact ⟨_, _, begins_tuple a its.toArray, p, fun h' it e => ⟨_, e, rfl, rfl⟩⟩
  | s z =>
    obtain ⟨t, rfl⟩ := r
    exact ⟨_, _, begins_text z t, trivial, fun h' it e => ⟨t, _, e, rfl, rfl⟩⟩
theorem Sk.lt (I : L2.Inv X pins σ H s) (h : k.rd X.K H xs) : ∀ b ∈ k.fp, b < s.heap.objs.size := by
  intro b hb
  cases k with
  | l a =>
    obtain ⟨its, rv, p, hz⟩ := I.list h
    rw [show b = a by simpa [Sk.fp] using hb]
    exact p.lt
  | t a =>
    obtain ⟨its, rv, p, hz⟩ := I.tuple h
    rw [show b = a by simpa [Sk.fp] using hb]
    obtain ⟨o, e, _⟩ := p
    exact Heap.lt_size e
  | s z => cases hb
theorem Sk.apart_of {it : Addr} (h : it ∉ k.fp) : k.apart it := by
  cases k with
  | l a => exact fun e => h (by rw [← e]; exact List.mem_cons_self ..)
  | t a => exact fun e => h (by rw [← e]; exact List.mem_cons_self ..)
  | s z => trivial
end

/-! ### enumerate -/
def ItE (K : PySem.W.Frag) (k : Sk) : It :=
  ⟨fun i H => ∃ xs x, k.rd K H xs ∧ xs[i]? = some x,
   fun i H v H' => ∃ T o x, v = .ref T ∧ H T = none ∧ o.dict = none ∧ H' = upd H T (.frz o (.tup [.int (i : Nat), x])) ∧ ∀ xs, k.rd K H xs → xs[i]? = some x,
   fun i H => ∃ xs, k.rd K H xs ∧ xs.length = i⟩
theorem turn_enumS {P : Program} {w : World} {K : PySem.W.Frag} {elts : List Expr} {kk : Nat} {tpos : Pos} (k : Sk) (e it : Addr) (hef : e ∉ it :: k.fp) (hif : it ∉ k.fp) :
    Turn P w K (.Tuple elts kk tpos) (ItE K k) [e, it] e (fun i h => (∃ old, IsEnum h e it ((i : Nat) : Int) old) ∧ k.iter h it i) where
  mem := by simp
  obj := fun i h st b hb => by
    obtain ⟨⟨old, he⟩, hi⟩ := st
    have e' : b = e ∨ b = it := by simpa using hb
    rcases e' with z | z
    · rw [z]; exact ⟨_, he, fun v q => nomatch q⟩
    · rw [z]; exact Sk.iter_obj hi
  keep := fun i h h' st kp => let ⟨⟨old, he⟩, hi⟩ := st; ⟨⟨old, kp e (by simp) _ he⟩, Sk.iter_keep hi fun o q => kp it (by simp) o q⟩
  item := by
    intro X hP hw hK hc i pins s σ H E I hf st hg
    subst hP hw hK
    obtain ⟨⟨old, he⟩, hit⟩ := st
    obtain ⟨xs, x, hq, hx⟩ := hg
    have hei : e ≠ it := fun z => hef (by rw [z]; exact List.mem_cons_self ..)
    obtain ⟨Pd, St, D, st, pv, sv⟩ := Sk.draws (A := X.A.in1) (by exact I.ok.hd hc) I hq hit (Sk.apart_of hif)
    have hel : e < s.heap.objs.size := Heap.lt_size he
    have hil : it < s.heap.objs.size := by obtain ⟨o, q, _⟩ := Sk.iter_obj hit; exact Heap.lt_size q
    refine wpAny_pyNext_enum_itemD D he st (List.getElem?_eq_some_iff.mp hx).1 hei hef fun u h' tk hu ho st' hT hsz hk => ?_
    obtain ⟨y, hy, ry⟩ := pv _ _ hu
    rw [hx] at hy
    cases hy
    refine ⟨_, rfl, wpAny_letOwnedTupleGo_enum (s := { s with heap := h', toks := tk + 1 }) ho fun h'' he' sb => ?_⟩
    have hT2 : h''.get? s.heap.objs.size = some { cls := .type "tuple", data := .seq #[.int i tk, u] } := (sb.2 _ (Nat.ne_of_gt hel)).trans hT
    have new : ObjOk X.prog X.w (upd H s.heap.objs.size (.frz { cls := .type "tuple", data := .seq #[.int i tk, u] } (.tup [.int (i : Nat), x]))) h'' s.heap.objs.size (.frz { cls := .type "tuple", data := .seq #[.int i tk, u] } (.tup [.int (i : Nat), x])) :=
      ⟨hT2, by show 2 ≤ sizeLine; decide, [.int i tk, u], .cons ⟨_, rfl⟩ (.cons ry .nil), ⟨_, hT2, rfl, _, rfl⟩⟩
    have I1 : L2.Inv X pins σ (upd H s.heap.objs.size (.frz { cls := .type "tuple", data := .seq #[.int i tk, u] } (.tup [.int (i : Nat), x]))) { s with heap := h'', toks := tk + 1 } :=
      I.turnedNew (ch := [e, it]) (fun b ob hb q => (sb.2 b (fun z => hb (by simp [z]))).trans (hk b ob (fun z => hb (by simp [z])) (fun z => hb (by simp [z])) q)) hf (Nat.le_refl _) new
    refine ⟨.ref s.heap.objs.size, _, I1, rfl, ⟨_, _, x, rfl, I.hok.fresh (Nat.le_refl _), rfl, rfl, fun ys hy => by rw [Sk.inj I hy hq]; exact hx⟩, ⟨⟨u, ?_⟩, Sk.iter_keep (sv _ _ st') fun o q => (sb.2 it (Ne.symm hei)).trans q⟩, fun b hb => ?_⟩
    · have e1 : ((i + 1 : Nat) : Int) = (i : Int) + 1 := by omega
      rw [e1]; exact he'
    · have hb' : b < s.heap.objs.size := by
        have e' : b = e ∨ b = it := by simpa using hb
        rcases e' with z | z
        · rw [z]; exact hel
        · rw [z]; exact hil
      rw [upd_ne (Nat.ne_of_lt hb')]
      exact (hf b hb).1
  done := by
    intro X hP hw hK hc i pins s σ H E I hf st hg
    subst hP hw hK
    obtain ⟨⟨old, he⟩, hit⟩ := st
    obtain ⟨xs, hq, hx⟩ := hg
    subst hx
    obtain ⟨Pd, St, D, st, pv, sv⟩ := Sk.draws (A := X.A.in1) (by exact I.ok.hd hc) I hq hit (Sk.apart_of hif)
    obtain ⟨f0, f1, f2, f3, f4, f5⟩ := hf it (by simp)
    exact wpAny_pyNext_enum_endD D he st fun h' eb => ⟨rfl, I.turned (t' := s.toks) (fun b o hb q => eb b o hb q) f0 f1 f3 f4 f5⟩
  self := fun A i s Q E st h => let ⟨⟨_, he⟩, _⟩ := st; wpAny_pyIter_enum he h
end RG
namespace PySem
open AutoSeq1 (wpAny_loadPart')
set_option maxHeartbeats 1000000 in
theorem meets_enumerate_new1 {v : Value} {o : Obj} {H : Heap → Prop} (B : Begins v o H) :
    Meets (Builtin.«enumerate.__new__» ⟨[.type "enumerate", v], []⟩) (fun _ R s => H s.heap ∧
      R (.ok (.ret (.ref (s.heap.push o).objs.size))) { s with heap := (s.heap.push o).push { cls := .type "enumerate", data := .fields #[.none, .bool false, .ref s.heap.objs.size, rawInt 0, .none, .none] } }) :=
  .of_wp fun prog w A R s h => by
    obtain ⟨hp, g, d, tk, os⟩ := s; obtain ⟨h1, h⟩ := h
    have hsub := sub_enumerate
    have q1 : ∀ {A' : Around} {E : Value → Shared → Prop} {Q : Value → Shared → Prop}, Q (.ref hp.objs.size) ⟨hp.push o, g, d, tk, os⟩ → wpAny (model prog w) A' (pyIter v) Q E ⟨hp, g, d, tk, os⟩ :=
      fun q => B.iter prog w _ _ ⟨hp, g, d, tk, os⟩ _ h1 q
    wp_walk using q1
    refine wpAny_stack_any fun st => wpAny_pure ?_
    split
    · rename_i c _ _ _ _ _
      cases (c == Value.type "enumerate")
      · wp_walk using q1
        exact ⟨_, rfl, h⟩
      · wp_walk using q1
        exact ⟨_, rfl, h⟩
    · wp_walk using q1
      exact ⟨_, rfl, h⟩
end PySem
namespace RG
open PySem PySem.Spec PySem.Calls PyProof.Rows L2
theorem enum_begins1 {prog : Program} {w : World} {A : Around} {E : Value → Shared → Prop} {s : Shared} {v : Value} {o : Obj} {H : Heap → Prop} {Q : Value → Shared → Prop} (B : Begins v o H) (h1 : H s.heap)
    (h : ∀ h', IsEnum h' (s.heap.objs.size + 1) s.heap.objs.size 0 .none → h'.get? s.heap.objs.size = some o → h'.objs.size = s.heap.objs.size + 2 →
      (∀ b o, s.heap.get? b = some o → h'.get? b = some o) → Q (.ref (s.heap.objs.size + 1)) { s with heap := h' }) :
    wpAny (model prog w) A (call (.type "enumerate") [v]) Q E s := by
  refine callType_new F.called_enumerate (by decide) (F.typeCall_enumerate_1 _) (F.newCall_enumerate_1 _) (fun obj => F.args_object_init_2 obj _) F.entry_enumerate_new
    (meets_enumerate_new1 B) ⟨h1, ?_⟩
  have hz : (s.heap.push o).objs.size = s.heap.objs.size + 1 := Heap.size_push ..
  show _ ∧ _
  rw [hz]
  have he : IsEnum ((s.heap.push o).push { cls := .type "enumerate", data := .fields #[.none, .bool false, .ref s.heap.objs.size, rawInt 0, .none, .none] }) (s.heap.objs.size + 1) s.heap.objs.size 0 .none := by
    have := Heap.get?_push_size (s.heap.push o) (o := { cls := .type "enumerate", data := .fields #[.none, .bool false, .ref s.heap.objs.size, rawInt 0, .none, .none] }) rfl
    rw [hz] at this; exact this
  refine ⟨⟨_, he, rfl⟩, h _ he (Heap.get?_push_of_some _ (Heap.get?_push_size _ B.free)) (by rw [Heap.size_push, hz]) fun b o x => Heap.get?_push_of_some _ (Heap.get?_push_of_some _ x)⟩
theorem pi_enumS {X : Cx} {e : Expr} {ta : TA} {p pos tpos : Pos} {elts : List Expr} {kk : Nat} (hg : Gl X "enumerate") (hm : X.mg "enumerate" = none) (ha : PA X [e] ta) (hs : starEach [e] X.env = [(false, eval e X.env)]) :
    PI X (.Tuple elts kk tpos) (.Call (.Name "enumerate" p) [e] [] pos) (fun σ H R => ta σ H fun vs H1 => ∃ k xs, vs = [Sk.val k] ∧ k.rd X.K H1 xs ∧ R (ItE X.K k) H1) := by
  refine ⟨fun pins s σ H R I h => ?_⟩
  refine Call_ (ld_blt I hg hm boot_enumerate (PyProof.Rows.callWith_type1 (thn (ha.run pos pins s σ H _ I h) fun us s1 ⟨vs, H1, I1, r1, q1⟩ => ?_) hs rfl))
  obtain ⟨k, xs, ex, hq, q⟩ := q1
  subst ex
  obtain ⟨u, rfl, ru⟩ := vals1 r1
  obtain ⟨o, Hb, B, hb, hit⟩ := Sk.begins I1 hq ru
  refine enum_begins1 B hb fun h' he ho hsz hk => wpAny_pyIter_enum he ?_
  have I2 : L2.Inv X pins σ H1 { s1 with heap := h' } := I1.kept (t' := s1.toks) hk
  have hlt := Sk.lt I1 hq
  have nof : ∀ j, s1.heap.objs.size + j ∉ k.fp := fun j hm => absurd (hlt _ hm) (by show ¬ (s1.heap.objs.size + j : Nat) < s1.heap.objs.size; omega)
  refine ⟨s1.heap.objs.size + 1, [s1.heap.objs.size + 1, s1.heap.objs.size], _, _, H1, rfl, I2, turn_enumS k (s1.heap.objs.size + 1) s1.heap.objs.size ?_ (nof 0), ⟨⟨.none, he⟩, hit h' _ ho⟩, fun b hb => ?_, q⟩
  · intro hm
    rcases List.mem_cons.mp hm with z | z
    · exact absurd z (Nat.succ_ne_self _)
    · exact nof 1 z
  · have e' : b = s1.heap.objs.size + 1 ∨ b = s1.heap.objs.size := by simpa using hb
    have hle : s1.heap.objs.size ≤ b := by
      rcases e' with z | z
      · rw [z]; exact Nat.le_add_right _ _
      · rw [z]; exact Nat.le_refl _
    exact I1.fpOk hle (I1.hok.fresh hle)

/-! ### zip -/
def ItZ (K : PySem.W.Frag) (k1 k2 : Sk) : It :=
  ⟨fun i H => ∃ xs ys x y, k1.rd K H xs ∧ k2.rd K H ys ∧ xs[i]? = some x ∧ ys[i]? = some y,
   fun i H v H' => ∃ T o x y, v = .ref T ∧ H T = none ∧ o.dict = none ∧ H' = upd H T (.frz o (.tup [x, y])) ∧ (∀ xs, k1.rd K H xs → xs[i]? = some x) ∧ ∀ ys, k2.rd K H ys → ys[i]? = some y,
   fun i H => ∃ xs ys, k1.rd K H xs ∧ k2.rd K H ys ∧ i ≤ xs.length ∧ i ≤ ys.length ∧ (i = xs.length ∨ i = ys.length)⟩
theorem turn_zipS {P : Program} {w : World} {K : PySem.W.Frag} {elts : List Expr} {kk : Nat} {tpos : Pos} (k1 k2 : Sk) {z TI TO i1 i2 : Addr} (S : ZipSep2 z TI TO i1 i2 (i1 :: k1.fp) (i2 :: k2.fp)) (a1 : i1 ∉ k1.fp) (a2 : i2 ∉ k2.fp) :
    Turn P w K (.Tuple elts kk tpos) (ItZ K k1 k2) [z, TI, TO, i1, i2] z (fun i h => IsZip h z TI TO .none ∧ IsTupOf2 h TI (.ref i1) (.ref i2) ∧ (∃ x y, IsTupOf2 h TO x y) ∧ k1.iter h i1 i ∧ k2.iter h i2 i) where
  mem := by simp
  obj := fun i h st c hc => by
    obtain ⟨hz, hTI, ⟨x, y, hTO⟩, h1, h2⟩ := st
    have e' : c = z ∨ c = TI ∨ c = TO ∨ c = i1 ∨ c = i2 := by simpa using hc
    rcases e' with q | q | q | q | q
    · rw [q]; exact ⟨_, hz, fun v q => nomatch q⟩
    · rw [q]; exact ⟨_, hTI, fun v q => nomatch q⟩
    · rw [q]; exact ⟨_, hTO, fun v q => nomatch q⟩
    · rw [q]; exact Sk.iter_obj h1
    · rw [q]; exact Sk.iter_obj h2
  keep := fun i h h' st k => by
    obtain ⟨hz, hTI, ⟨x, y, hTO⟩, h1, h2⟩ := st
    exact ⟨k z (by simp) _ hz, k TI (by simp) _ hTI, ⟨x, y, k TO (by simp) _ hTO⟩, Sk.iter_keep h1 fun o q => k i1 (by simp) o q, Sk.iter_keep h2 fun o q => k i2 (by simp) o q⟩
  item := by
    intro X hP hw hK hc i pins s σ H E I hf st hg
    subst hP hw hK
    obtain ⟨hz, hTI, ⟨x0, y0, hTO⟩, h1, h2⟩ := st
    obtain ⟨xs, ys, x, y, hqx, hqy, hx, hy⟩ := hg
    obtain ⟨P1, S1, D1, st1, pv1, sv1⟩ := Sk.draws (A := X.A.in1) (by exact I.ok.hd hc) I hqx h1 (Sk.apart_of a1)
    obtain ⟨P2, S2, D2, st2, pv2, sv2⟩ := Sk.draws (A := X.A.in1) (by exact I.ok.hd hc) I hqy h2 (Sk.apart_of a2)
    have hzl : z < s.heap.objs.size := Heap.lt_size hz
    refine wpAny_pyNext_zipD2_item S D1 D2 hz hTI hTO st1 st2 (List.getElem?_eq_some_iff.mp hx).1 (List.getElem?_eq_some_iff.mp hy).1 fun u u2 h' tk hu hu2 z' TO' h1' h2' hT hsz hk => ?_
    obtain ⟨x', hx', ru⟩ := pv1 _ _ hu
    rw [hx] at hx'
    cases hx'
    obtain ⟨y', hy', ru2⟩ := pv2 _ _ hu2
    rw [hy] at hy'
    cases hy'
    refine ⟨_, rfl, wpAny_letOwnedTupleGo_zip (s := { s with heap := h', toks := tk }) z' fun h'' z'' sb => ?_⟩
    have hT2 : h''.get? s.heap.objs.size = some { cls := .type "tuple", data := .seq #[u, u2] } := (sb.2 _ (Nat.ne_of_gt hzl)).trans hT
    have new : ObjOk X.prog X.w (upd H s.heap.objs.size (.frz { cls := .type "tuple", data := .seq #[u, u2] } (.tup [x, y]))) h'' s.heap.objs.size (.frz { cls := .type "tuple", data := .seq #[u, u2] } (.tup [x, y])) :=
      ⟨hT2, by show 2 ≤ sizeLine; decide, [u, u2], .cons ru (.cons ru2 .nil), ⟨_, hT2, rfl, _, rfl⟩⟩
    have zi1 : i1 ≠ z := Ne.symm S.zi1
    have zi2 : i2 ≠ z := Ne.symm S.zi2
    have I1 : L2.Inv X pins σ (upd H s.heap.objs.size (.frz { cls := .type "tuple", data := .seq #[u, u2] } (.tup [x, y]))) { s with heap := h'', toks := tk } :=
      I.turnedNew (t' := tk) (ch := [z, TI, TO, i1, i2]) (fun c o hb q => (sb.2 c (fun q' => hb (by simp [q']))).trans (hk c o (fun q' => hb (by simp [q'])) (fun q' => hb (by simp [q'])) (fun q' => hb (by simp [q'])) (fun q' => hb (by simp [q'])) q)) hf (Nat.le_refl _) new
    refine ⟨.ref s.heap.objs.size, _, I1, rfl, ⟨_, _, x, y, rfl, I.hok.fresh (Nat.le_refl _), rfl, rfl, fun l hl => by rw [Sk.inj I hl hqx]; exact hx, fun l hl => by rw [Sk.inj I hl hqy]; exact hy⟩, ⟨z'', ?_, ⟨u, u2, ?_⟩, ?_, ?_⟩, fun c hcm => ?_⟩
    · exact (sb.2 _ S.TIz).trans (hk _ _ S.TIz S.TITO S.TIi1 S.TIi2 hTI)
    · exact (sb.2 _ S.TOz).trans TO'
    · exact Sk.iter_keep (sv1 _ _ h1') fun o q => (sb.2 _ zi1).trans q
    · exact Sk.iter_keep (sv2 _ _ h2') fun o q => (sb.2 _ zi2).trans q
    · have hlt : c < s.heap.objs.size := by
        have e' : c = z ∨ c = TI ∨ c = TO ∨ c = i1 ∨ c = i2 := by simpa using hcm
        rcases e' with q | q | q | q | q
        · rw [q]; exact hzl
        · rw [q]; exact Heap.lt_size hTI
        · rw [q]; exact Heap.lt_size hTO
        · rw [q]; obtain ⟨_, e1, _⟩ := Sk.iter_obj h1; exact Heap.lt_size e1
        · rw [q]; obtain ⟨_, e2, _⟩ := Sk.iter_obj h2; exact Heap.lt_size e2
      rw [upd_ne (Nat.ne_of_lt hlt)]
      exact (hf c hcm).1
  done := by
    intro X hP hw hK hc i pins s σ H E I hf st hg
    subst hP hw hK
    obtain ⟨hz, hTI, ⟨x0, y0, hTO⟩, h1, h2⟩ := st
    obtain ⟨xs, ys, hqx, hqy, l1, l2, hend⟩ := hg
    obtain ⟨P1, S1, D1, st1, pv1, sv1⟩ := Sk.draws (A := X.A.in1) (by exact I.ok.hd hc) I hqx h1 (Sk.apart_of a1)
    obtain ⟨P2, S2, D2, st2, pv2, sv2⟩ := Sk.draws (A := X.A.in1) (by exact I.ok.hd hc) I hqy h2 (Sk.apart_of a2)
    exact wpAny_pyNext_zipD2_end S D1 D2 hz hTI hTO st1 st2 l1 l2 hend fun h' tk hk => ⟨rfl, I.turnedL (t' := tk) (ch := [z, TI, TO, i1, i2]) (fun c o hb q =>
      hk c o (fun q' => hb (by simp [q'])) (fun q' => hb (by simp [q'])) (fun q' => hb (by simp [q'])) (fun q' => hb (by simp [q'])) q) hf⟩
  self := fun A i s Q E st h => wpAny_pyIter_zip st.1 h
theorem pi_zipS {X : Cx} {e e2 : Expr} {ta : TA} {p pos tpos : Pos} {elts : List Expr} {kk : Nat} (hg : Gl X "zip") (hm : X.mg "zip" = none) (ha : PA X [e, e2] ta)
    (hs : starEach [e, e2] X.env = (false, eval e X.env) :: starEach [e2] X.env) (hpl : (backTo pos (starEach [e2] X.env)).any (·.1) = false) :
    PI X (.Tuple elts kk tpos) (.Call (.Name "zip" p) [e, e2] [] pos) (fun σ H R => ta σ H fun vs H1 => ∃ k1 k2 xs ys, vs = [Sk.val k1, Sk.val k2] ∧ k1.rd X.K H1 xs ∧ k2.rd X.K H1 ys ∧ R (ItZ X.K k1 k2) H1) := by
  refine ⟨fun pins s σ H R I h => ?_⟩
  refine Call_ (ld_blt I hg hm PyProof.Rows.boot_zip (PyProof.Rows.callWith_type1 (thn (ha.run pos pins s σ H _ I h) fun us s1 ⟨vs, H1, I1, r1, q1⟩ => ?_) hs hpl))
  obtain ⟨k1, k2, xs, ys, ex, hqx, hqy, q⟩ := q1
  subst ex
  obtain ⟨u, u2, rfl, ru, ru2⟩ := vals2 r1
  obtain ⟨o1, Hb1, B1, hb1, hit1⟩ := Sk.begins I1 hqx ru
  obtain ⟨o2, Hb2, B2, hb2, hit2⟩ := Sk.begins I1 hqy ru2
  refine zip_begins2 B1 B2 hb1 hb2 fun h' hz hTI hTO g1 g2 hsz hk => wpAny_pyIter_zip hz ?_
  have I2 : L2.Inv X pins σ H1 { s1 with heap := h' } := I1.kept (t' := s1.toks) hk
  have lt1 := Sk.lt I1 hqx
  have lt2 := Sk.lt I1 hqy
  refine ⟨s1.heap.objs.size + 4, [s1.heap.objs.size + 4, s1.heap.objs.size + 2, s1.heap.objs.size + 3, s1.heap.objs.size, s1.heap.objs.size + 1], _, _, H1, rfl, I2, turn_zipS k1 k2 (zip_sep2 lt1 lt2) ?_ ?_,
    ⟨hz, hTI, ⟨_, _, hTO⟩, hit1 h' _ g1, hit2 h' _ g2⟩, fun c hcm => ?_, q⟩
  · exact fun hm => absurd (lt1 _ hm) (Nat.lt_irrefl _)
  · exact fun hm => absurd (lt2 _ hm) (by show ¬ (s1.heap.objs.size + 1 : Nat) < s1.heap.objs.size; omega)
  · have e' : c = s1.heap.objs.size + 4 ∨ c = s1.heap.objs.size + 2 ∨ c = s1.heap.objs.size + 3 ∨ c = s1.heap.objs.size ∨ c = s1.heap.objs.size + 1 := by simpa using hcm
    have hle : s1.heap.objs.size ≤ c := by
      rcases e' with z | z | z | z | z
      · rw [z]; exact Nat.le_add_right _ _
      · rw [z]; exact Nat.le_add_right _ _
      · rw [z]; exact Nat.le_add_right _ _
      · rw [z]; exact Nat.le_refl _
      · rw [z]; exact Nat.le_add_right _ _
    exact I1.fpOk hle (I1.hok.fresh hle)

/-! ### a value walked: a list, a tuple, a text -/
def ItV (K : PySem.W.Frag) : Sk → It
  | .l a => Itl K a
  | .t a => Itt K a
  | .s z => Its z
theorem pi_valS {X : Cx} {tg e : Expr} {te : TE} (he : PE X e te) : PI X tg e (fun σ H R => te σ H fun x H1 => ∃ k xs, x = Sk.val k ∧ k.rd X.K H1 xs ∧ R (ItV X.K k) H1) := by
  refine ⟨fun pins s σ H R I h => ?_⟩
  refine thn (he.run pins s σ H _ I h) fun v s1 ⟨x, H1, I1, r1, k, xs, ex, hq, q⟩ => ?_
  subst ex
  have one : ∀ (o : Obj), o.isFreed = false → ∀ b ∈ [s1.heap.objs.size], FpOk X pins H1 b := fun o _ b hb => by
    have e : b = s1.heap.objs.size := by simpa using hb
    subst e
    exact I1.fpOk (Nat.le_refl _) (I1.hok.fresh (Nat.le_refl _))
  cases k with
  | l a =>
    cases r1
    obtain ⟨its, rv, p, hz⟩ := I1.list hq
    refine wpAny_pyIter_list p.isList ?_
    exact ⟨s1.heap.objs.size, [s1.heap.objs.size], _, _, H1, rfl, I1.kept (t' := s1.toks) fun b o e => Heap.get?_push_of_some _ e, turn_list a _, ⟨_, Heap.get?_push_size _ rfl, rfl, rfl⟩, one { cls := .none } rfl, q⟩
  | t a =>
    cases r1
    obtain ⟨its, rv, p, hz⟩ := I1.tuple hq
    refine wpAny_pyIter_tuple (show s1.heap.IsTuple a its.toArray from p) ?_
    exact ⟨s1.heap.objs.size, [s1.heap.objs.size], _, _, H1, rfl, I1.kept (t' := s1.toks) fun b o e => Heap.get?_push_of_some _ e, turn_tuple a _, ⟨_, Heap.get?_push_size _ rfl, rfl, rfl⟩, one { cls := .none } rfl, q⟩
  | s z =>
    obtain ⟨t, rfl⟩ := r1
    cases ha : z.cps.all (· < 128)
    · exact wpAny_pyIter_wide ha (pi_one (tk := s1.toks) I1 _ (turn_str _ z t "str_iterator" (.inr rfl)) ⟨_, Heap.get?_push_size _ rfl, rfl, rfl⟩ q)
    · exact wpAny_pyIter_ascii ha (pi_one (tk := s1.toks) I1 _ (turn_str _ z t "str_ascii_iterator" (.inl rfl)) ⟨_, Heap.get?_push_size _ rfl, rfl, rfl⟩ q)
end RG
end

section
set_option Elab.async false
set_option linter.all false
set_option maxRecDepth 100000
set_option maxHeartbeats 4000000
/-! Expressions by data: one rule for each form. -/
namespace RG
open PySem PySem.Spec PySem.Calls PyProof.Rows L2

/-! ### one after the other -/
section
variable {S B : Ads} {b : Nat} {σ : L2.St} {H : Hp} {ρ : Rho} {β : Type}
theorem RdR.thn {fa : Rho → T PyData} (c : Ctx S B H) (er : ER S B b σ H ρ) {g : PyData → T β} {P : β → Nat → Prop} (w : ((fa ρ).bind g).wp b P) {R : VK}
    (k : ∀ d b1 v H1, Ext S b b1 H H1 → DnT S B H1 v d → Ctx S B H1 → ER S B b1 σ H1 ρ → (g d).wp b1 P → R v H1) : RdR fa σ H R :=
  ⟨S, B, b, ρ, c, er, T.wp_mono (fun d b1 w v H1 x h => k d b1 v H1 x h (c.ext x) (er.ext c x) w) (T.wp_bind.mp w)⟩
theorem RdE.thn {fr : Bool} {fa : Rho → T PyData} (c : Ctx S B H) (er : ER S B b σ H ρ) {g : PyData → T β} {P : β → Nat → Prop} (w : ((fa ρ).bind g).wp b P) {R : VK}
    (k : ∀ d b1 v H1, Ext S b b1 H H1 → Res fr B H H1 v d → Ctx S B H1 → ER S B b1 σ H1 ρ → (g d).wp b1 P → R v H1) : RdE fa fr σ H R :=
  ⟨S, B, b, ρ, c, er, T.wp_mono (fun d b1 w v H1 x h => k d b1 v H1 x h (c.ext x) (er.ext c x) w) (T.wp_bind.mp w)⟩
theorem RdT.thn {fa : Rho → T Bool} (c : Ctx S B H) (er : ER S B b σ H ρ) {g : Bool → T β} {P : β → Nat → Prop} (w : ((fa ρ).bind g).wp b P) {R : Bool → Hp → Prop}
    (k : ∀ d b1 H1, Ext S b b1 H H1 → Ctx S B H1 → ER S B b1 σ H1 ρ → (g d).wp b1 P → R d H1) : RdT fa σ H R :=
  ⟨S, B, b, ρ, c, er, T.wp_mono (fun d b1 w H1 x => k d b1 H1 x (c.ext x) (er.ext c x) w) (T.wp_bind.mp w)⟩
theorem RdA.thn {fa : Rho → T (List PyData)} (c : Ctx S B H) (er : ER S B b σ H ρ) {g : List PyData → T β} {P : β → Nat → Prop} (w : ((fa ρ).bind g).wp b P) {R : List V → Hp → Prop}
    (k : ∀ d b1 v H1, Ext S b b1 H H1 → DnTL S B H1 v d → Ctx S B H1 → ER S B b1 σ H1 ρ → (g d).wp b1 P → R v H1) : RdA fa σ H R :=
  ⟨S, B, b, ρ, c, er, T.wp_mono (fun d b1 w v H1 x h => k d b1 v H1 x h (c.ext x) (er.ext c x) w) (T.wp_bind.mp w)⟩
end
theorem RdP.rd {X : Cx} {e : Expr} {f : Rho → T PyData} {pl : Rho → Bool} (h : PE X e (RdP f pl)) : PE X e (RdR f) :=
  h.imp fun σ H Q ⟨S, B, b, ρ, c, er, w⟩ => ⟨S, B, b, ρ, c, er, T.wp_mono (fun d b' q v H' x r _ => q v H' x r) w⟩
theorem RdP.of {X : Cx} {e : Expr} {f : Rho → T PyData} {fr : Bool} {pl : Rho → Bool} (h : PE X e (RdE f fr)) : PE X e (RdP f pl) :=
  h.imp fun σ H Q ⟨S, B, b, ρ, c, er, w⟩ => ⟨S, B, b, ρ, c, er, T.wp_mono (fun d b' q v H' x r => q v H' x (.of r.1) fun _ => r.1) w⟩
theorem RdAP.rd {X : Cx} {es : List Expr} {f : Rho → T (List PyData)} {pl : Rho → Bool} (h : PA X es (RdAP f pl)) : PA X es (RdA f) :=
  h.imp fun σ H Q ⟨S, B, b, ρ, c, er, w⟩ => ⟨S, B, b, ρ, c, er, T.wp_mono (fun d b' q v H' x r _ => q v H' x r) w⟩

section
variable {X : Cx} {a b c : Expr} {pos : Pos} {fa fb fc : Rho → T PyData} {fr fr1 fr2 : Bool}

/-! ### names, constants -/
theorem getV_wp {ρ : Rho} {i k : Nat} {P : PyData → Nat → Prop} (w : (getV ρ i).wp k P) : ∃ d, ρ[i]? = some (.va d) ∧ P d k := by
  unfold getV at w
  split at w
  · exact ⟨_, by assumption, w⟩
  · exact w.elim
theorem d_var {i : Nat} {x : Str} (hN : X.N[i]? = some x) (hv : Vis X.env.scope x) (hd : (x == ("__debug__" : Str)) = false) (hcd : (x == ("__classdict__" : Str)) = false) :
    PE X (.Name x pos) (RdE (fun ρ => getV ρ i) false) :=
  (pe_var hN hv hd hcd).imp fun σ H Q ⟨S, B, b, ρ, c, er, w⟩ => by
    obtain ⟨d, hd, q⟩ := getV_wp w
    obtain ⟨v, h1, h2⟩ := er.va i d hd
    exact ⟨v, h1, q v H .refl (.of h2)⟩
theorem d_varP {i : Nat} {x : Str} (hN : X.N[i]? = some x) (hv : Vis X.env.scope x) (hd : (x == ("__debug__" : Str)) = false) (hcd : (x == ("__classdict__" : Str)) = false) :
    PE X (.Name x pos) (RdP (fun ρ => getR ρ i) (fun ρ => notOw ρ (.v i))) :=
  (pe_var hN hv hd hcd).imp fun σ H Q ⟨S, B, b, ρ, c, er, w⟩ => by
    have w : (getR ρ i).wp b fun d b' => ∀ v H', Ext S b b' H H' → DnT S B H' v d → (notOw ρ (.v i) = true → Dn B H' v d) → Q v H' := w
    unfold getR at w
    split at w
    · rename_i d hd
      obtain ⟨v, h1, h2⟩ := er.va i d hd
      exact ⟨v, h1, w v H .refl (.of h2) fun _ => h2⟩
    · rename_i d hd
      obtain ⟨a, h1, h2, h3, h4⟩ := er.ow i d hd
      refine ⟨_, h1, w _ H .refl h4 fun z => ?_⟩
      unfold notOw at z
      simp only [hd] at z
      exact absurd z (by decide)
    · exact w.elim
theorem d_const {e : Expr} {v : V} {d : PyData} (h : PE X e (tC v)) (hv : ∀ B H, Dn B H v d) (hl : ∀ ds, d ≠ .list ds) : PE X e (RdE (fun _ => .ret d) fr) :=
  h.imp fun σ H Q ⟨S, B, b, ρ, c, er, w⟩ => w v H .refl (.flat (hv _ _) hl)

/-! ### operations -/
theorem d_neg (ha : PE X a (RdE fa fr1)) : PE X (.UnaryOp .USub a pos) (RdE (fun ρ => (fa ρ).bind fun | .int i => .ret (.int (-i)) | _ => .fail) fr) :=
  (pe_un un_neg ha).imp fun σ H Q ⟨S, B, b, ρ, c, er, w⟩ => RdE.thn c er w fun d b1 v H1 x r c1 er1 w => by
    split at w
    · rename_i i
      obtain rfl := (DnT.of (S := S) r.1).int
      exact ⟨i, rfl, w _ _ x .int⟩
    · exact w.elim
theorem d_vnot (ha : PE X a (RdE fa fr1)) : PE X (.UnaryOp .Not a pos) (RdE (fun ρ => (fa ρ).bind fun | .bool i => .ret (.bool (!i)) | _ => .fail) fr) :=
  (pe_not ha).imp fun σ H Q ⟨S, B, b, ρ, c, er, w⟩ => RdE.thn c er w fun d b1 v H1 x r c1 er1 w => by
    split at w
    · rename_i i
      obtain rfl := (DnT.of (S := S) r.1).bl
      exact ⟨i, rfl, w _ _ x .bl⟩
    · exact w.elim
theorem d_bin {op : Operator} (ha : PE X a (RdR fa)) (hb : PE X b (RdR fb)) : PE X (.BinOp a op b pos) (RdE (fun ρ => (fa ρ).bind fun x => (fb ρ).bind fun y => binOp op x y) fr) :=
  (pe_op op_bin ha hb).imp fun σ H Q ⟨S, B, b, ρ, c, er, w⟩ => RdR.thn c er w fun d1 b1 v1 H1 x1 h1 c1 er1 w => RdR.thn c1 er1 w fun d2 b2 v2 H2 x2 h2 c2 er2 w =>
    ⟨S, B, b2, d1, d2, c2, h1.ext c1 x2, h2, T.wp_mono (fun d b3 q v H' x3 r => q v H' ((x1.trans x2).trans x3) (r.weak.pre (x1.trans x2))) w⟩
theorem d_cmp {op : CmpOp} (hu : X.A.units + 64 < cLine) (hm : behindInMarks op b = false) (ha : PE X a (RdR fa)) (hb : PE X b (RdR fb)) :
    PE X (.Compare a [op] [b] pos) (RdE (fun ρ => (fa ρ).bind fun x => (fb ρ).bind fun y => (cmpOp op x y).bind fun k => .ret (.bool k)) fr) :=
  (pe_cmpR (op_cmp hu) ha hb hm).imp fun σ H Q ⟨S, B, b, ρ, c, er, w⟩ => RdR.thn c er w fun d1 b1 v1 H1 x1 h1 c1 er1 w => RdR.thn c1 er1 w fun d2 b2 v2 H2 x2 h2 c2 er2 w =>
    ⟨S, B, b2, d1, d2, c2, h1.ext c1 x2, h2, T.wp_mono (fun k b3 q H' x3 => q _ H' ((x1.trans x2).trans x3) .bl) (T.wp_bind.mp w)⟩
theorem d_tcmp {op : CmpOp} (hu : X.A.units + 64 < cLine) (hm : behindInMarks op b = false) (ha : PE X a (RdR fa)) (hb : PE X b (RdR fb)) :
    PT X (.Compare a [op] [b] pos) (RdT (fun ρ => (fa ρ).bind fun x => (fb ρ).bind fun y => cmpOp op x y)) :=
  (pt_cmpR (op_cmp hu) ha hb hm).imp fun σ H Q ⟨S, B, b, ρ, c, er, w⟩ => RdR.thn c er w fun d1 b1 v1 H1 x1 h1 c1 er1 w => RdR.thn c1 er1 w fun d2 b2 v2 H2 x2 h2 c2 er2 w =>
    ⟨S, B, b2, d1, d2, c2, h1.ext c1 x2, h2, T.wp_mono (fun k b3 q H' x3 => ⟨k, rfl, q H' ((x1.trans x2).trans x3)⟩) w⟩
theorem non_dec {S B : Ads} {H : Hp} {v : V} {d : PyData} (h : DnT S B H v d) : decide (v = .non) = (match d with | .none => true | _ => false) := by
  cases d with
  | none => obtain rfl := h.non; rfl
  | int i => obtain rfl := h.int; rfl
  | bool i => obtain rfl := h.bl; rfl
  | str i => obtain rfl := h.str; rfl
  | list i => obtain ⟨a, xs, rfl, _⟩ := h.list; rfl
  | tuple i => obtain ⟨a, o, xs, rfl, _⟩ := h.tuple; rfl
  | dict i => exact h.nodict.elim
theorem d_isN {j pos'} (ha : PE X a (RdR fa)) : PE X (.Compare a [.Is] [.Constant .none j pos'] pos) (RdE (fun ρ => (fa ρ).bind fun | .none => .ret (.bool true) | _ => .ret (.bool false)) fr) :=
  (pe_cmp (pc_isN ha)).imp fun σ H Q ⟨S, B, b, ρ, c, er, w⟩ => RdR.thn c er w fun d b1 v H1 x h c1 er1 w => by
    show Q (.bl (decide (v = .non))) H1
    rw [non_dec h]
    cases d <;> exact w _ _ x .bl
theorem d_notN {j pos'} (ha : PE X a (RdR fa)) : PE X (.Compare a [.IsNot] [.Constant .none j pos'] pos) (RdE (fun ρ => (fa ρ).bind fun | .none => .ret (.bool false) | _ => .ret (.bool true)) fr) :=
  (pe_cmp (pc_notN ha)).imp fun σ H Q ⟨S, B, b, ρ, c, er, w⟩ => RdR.thn c er w fun d b1 v H1 x h c1 er1 w => by
    show Q (.bl (!decide (v = .non))) H1
    rw [non_dec h]
    cases d <;> exact w _ _ x .bl
theorem d_tisN {j pos'} (ha : PE X a (RdR fa)) : PT X (.Compare a [.Is] [.Constant .none j pos'] pos) (RdT (fun ρ => (fa ρ).bind fun | .none => .ret true | _ => .ret false)) :=
  (pt_cmp (pc_isN ha)).imp fun σ H Q ⟨S, B, b, ρ, c, er, w⟩ => RdR.thn c er w fun d b1 v H1 x h c1 er1 w => by
    refine ⟨decide (v = .non), rfl, ?_⟩
    rw [non_dec h]
    cases d <;> exact w _ x
theorem d_tnotN {j pos'} (ha : PE X a (RdR fa)) : PT X (.Compare a [.IsNot] [.Constant .none j pos'] pos) (RdT (fun ρ => (fa ρ).bind fun | .none => .ret false | _ => .ret true)) :=
  (pt_cmp (pc_notN ha)).imp fun σ H Q ⟨S, B, b, ρ, c, er, w⟩ => RdR.thn c er w fun d b1 v H1 x h c1 er1 w => by
    refine ⟨!decide (v = .non), rfl, ?_⟩
    rw [non_dec h]
    cases d <;> exact w _ x
theorem d_chain {o1 o2 : CmpOp} {R : VK} {σ : L2.St} {H : Hp} {β : Type} {g : Bool → T β} {P : β → Nat → Prop} {S B : Ads} {b : Nat} {ρ : Rho} (c : Ctx S B H) (er : ER S B b σ H ρ)
    (w : ((fa ρ).bind fun x => (fb ρ).bind fun y => (cmpOp o1 x y).bind fun k => if k then (fc ρ).bind fun z => (cmpOp o2 y z).bind g else g false).wp b P)
    (q : ∀ k b' H', Ext S b b' H H' → (g k).wp b' P → R (.bl k) H') : tChain (rCmp (cmpOp o1)) (rCmp (cmpOp o2)) (RdR fa) (RdR fb) (RdR fc) σ H R :=
  RdR.thn c er w fun d1 b1 v1 H1 x1 h1 c1 er1 w => RdR.thn c1 er1 w fun d2 b2 v2 H2 x2 h2 c2 er2 w =>
    ⟨S, B, b2, d1, d2, c2, h1.ext c1 x2, h2, T.wp_mono (fun k b3 w H3 x3 => by
      refine ⟨k, rfl, ?_⟩
      have c3 := c2.ext x3
      have er3 := er2.ext c2 x3
      cases k with
      | false => exact q false b3 H3 ((x1.trans x2).trans x3) w
      | true => exact RdR.thn c3 er3 w fun d4 b4 v4 H4 x4 h4 c4 er4 w => ⟨S, B, b4, d2, d4, c4, (h2.ext c2 x3).ext c3 x4, h4, T.wp_mono (fun k b5 w H5 x5 => q k b5 H5 ((((x1.trans x2).trans x3).trans x4).trans x5) w) (T.wp_bind.mp w)⟩) (T.wp_bind.mp w)⟩
theorem d_chn {o1 o2 : CmpOp} (hu : X.A.units + 64 < cLine) (hm : lastMarks [o1, o2] [b, c] = false) (ha : PE X a (RdR fa)) (hb : PE X b (RdR fb)) (hc : PE X c (RdR fc)) :
    PE X (.Compare a [o1, o2] [b, c] pos) (RdE (fun ρ => (fa ρ).bind fun x => (fb ρ).bind fun y => (cmpOp o1 x y).bind fun k => if k then (fc ρ).bind fun z => (cmpOp o2 y z).bind fun k' => .ret (.bool k') else .ret (.bool false)) fr) :=
  (pe_chain (op_cmp hu) (op_cmp hu) ha hb hc hm).imp fun σ H Q ⟨S, B, b, ρ, c, er, w⟩ => d_chain (β := PyData) (g := fun k => T.ret (PyData.bool k)) (P := fun d b' => ∀ v H', Ext S b b' H H' → Res fr B H H' v d → Q v H') c er w fun k b' H' x w => w _ _ x .bl
theorem d_tchn {o1 o2 : CmpOp} (hu : X.A.units + 64 < cLine) (hm : lastMarks [o1, o2] [b, c] = false) (ha : PE X a (RdR fa)) (hb : PE X b (RdR fb)) (hc : PE X c (RdR fc)) :
    PT X (.Compare a [o1, o2] [b, c] pos) (RdT (fun ρ => (fa ρ).bind fun x => (fb ρ).bind fun y => (cmpOp o1 x y).bind fun k => if k then (fc ρ).bind fun z => cmpOp o2 y z else .ret false)) :=
  (pt_chain (op_cmp hu) (op_cmp hu) ha hb hc hm).imp fun σ H Q ⟨S, B, b, ρ, c, er, w⟩ => by
    refine d_chain (g := fun k => .ret k) (P := fun k b' => ∀ H', Ext S b b' H H' → Q k H') c er ?_ fun k b' H' x w => ⟨k, rfl, w _ x⟩
    have e : ∀ y z, (cmpOp o2 y z).bind T.ret = cmpOp o2 y z := fun y z => T.bind_eta _
    simp only [e]
    exact w

/-! ### and, or, not, if -/
variable {ft fu : Rho → T Bool} {rest : List Expr}
theorem d_tnot (ha : PT X a (RdT ft)) : PT X (.UnaryOp .Not a pos) (RdT (fun ρ => (ft ρ).bind fun k => .ret (!k))) :=
  (pt_not ha).imp fun σ H Q ⟨S, B, b, ρ, c, er, w⟩ => RdT.thn c er w fun k b1 H1 x c1 er1 w => w _ x
theorem d_wand (ha : PT X a (RdT ft)) (hb : PW X (.BoolOp .And (b :: rest) pos) (RdT fu)) : PW X (.BoolOp .And (a :: b :: rest) pos) (RdT (fun ρ => (ft ρ).bind fun k => if k then fu ρ else .ret false)) :=
  (pw_and ha hb).imp fun σ H Q ⟨S, B, b, ρ, c, er, w⟩ => RdT.thn c er w fun k b1 H1 x c1 er1 w => by
    cases k with
    | false => exact w _ x
    | true => exact ⟨S, B, b1, ρ, c1, er1, T.wp_mono (fun k b2 q H2 x2 => q H2 (x.trans x2)) w⟩
theorem d_wor (ha : PT X a (RdT ft)) (hb : PW X (.BoolOp .Or (b :: rest) pos) (RdT fu)) : PW X (.BoolOp .Or (a :: b :: rest) pos) (RdT (fun ρ => (ft ρ).bind fun k => if k then .ret true else fu ρ)) :=
  (pw_or ha hb).imp fun σ H Q ⟨S, B, b, ρ, c, er, w⟩ => RdT.thn c er w fun k b1 H1 x c1 er1 w => by
    cases k with
    | true => exact w _ x
    | false => exact ⟨S, B, b1, ρ, c1, er1, T.wp_mono (fun k b2 q H2 x2 => q H2 (x.trans x2)) w⟩
theorem d_and (ha : PE X a (RdE fa fr1)) (hb : PE X (.BoolOp .And (b :: rest) pos) (RdE fb false)) :
    PE X (.BoolOp .And (a :: b :: rest) pos) (RdE (fun ρ => (fa ρ).bind fun | .bool k => if k then fb ρ else .ret (.bool false) | _ => .fail) false) :=
  (pe_and ha hb).imp fun σ H Q ⟨S, B, b, ρ, c, er, w⟩ => RdE.thn c er w fun d b1 v H1 x r c1 er1 w => by
    split at w
    · rename_i k
      obtain rfl := (DnT.of (S := S) r.1).bl
      refine ⟨k, rfl, ?_⟩
      cases k with
      | false => exact w _ _ x .bl
      | true => exact ⟨S, B, b1, ρ, c1, er1, T.wp_mono (fun k b2 q v H2 x2 r => q v H2 (x.trans x2) (r.pre x)) w⟩
    · exact w.elim
theorem d_or (ha : PE X a (RdE fa fr1)) (hb : PE X (.BoolOp .Or (b :: rest) pos) (RdE fb false)) :
    PE X (.BoolOp .Or (a :: b :: rest) pos) (RdE (fun ρ => (fa ρ).bind fun | .bool k => if k then .ret (.bool true) else fb ρ | _ => .fail) false) :=
  (pe_or ha hb).imp fun σ H Q ⟨S, B, b, ρ, c, er, w⟩ => RdE.thn c er w fun d b1 v H1 x r c1 er1 w => by
    split at w
    · rename_i k
      obtain rfl := (DnT.of (S := S) r.1).bl
      refine ⟨k, rfl, ?_⟩
      cases k with
      | true => exact w _ _ x .bl
      | false => exact ⟨S, B, b1, ρ, c1, er1, T.wp_mono (fun k b2 q v H2 x2 r => q v H2 (x.trans x2) (r.pre x)) w⟩
    · exact w.elim
theorem d_ife (hc : PT X c (RdT ft)) (ha : PE X a (RdE fa fr1)) (hb : PE X b (RdE fb fr2)) : PE X (.IfExp c a b pos) (RdE (fun ρ => (ft ρ).bind fun k => if k then fa ρ else fb ρ) false) :=
  (pe_ifExp hc ha hb).imp fun σ H Q ⟨S, B, b, ρ, c, er, w⟩ => RdT.thn c er w fun k b1 H1 x c1 er1 w => by
    cases k with
    | true => exact ⟨S, B, b1, ρ, c1, er1, T.wp_mono (fun k b2 q v H2 x2 r => q v H2 (x.trans x2) (.of r.1)) w⟩
    | false => exact ⟨S, B, b1, ρ, c1, er1, T.wp_mono (fun k b2 q v H2 x2 r => q v H2 (x.trans x2) (.of r.1)) w⟩
theorem d_tval (ha : PE X a (RdR fa)) (he : ∀ whole, isTrue a X.env whole = (do let v ← whole; standAt a.pos; holding [v] (truthy v))) : PT X a (RdT (fun ρ => (fa ρ).bind truth)) := by
  refine ⟨fun pins s σ H Q I ⟨S, B, b, ρ, c, er, w⟩ => ?_⟩
  refine isTrue_plain (thn (ha.run pins s σ H (fun v H1 => ∃ S B b d, Ctx S B H1 ∧ DnT S B H1 v d ∧ (truth d).wp b fun k b' => ∀ H', Ext S b b' H1 H' → Q k H') I ?_) fun v s1 ⟨x, H1, I1, r1, q1⟩ => tru_D pins s1 σ H1 x v Q I1 r1 q1) (he _)
  exact RdR.thn c er w fun d b1 v H1 x h c1 er1 w => ⟨S, B, b1, d, c1, h, T.wp_mono (fun k b2 q H2 x2 => q H2 (x.trans x2)) w⟩

/-! ### displays -/
variable {es : List Expr} {fs : List Bool} {fl : Rho → T (List Sl)}
theorem Ctx.bar {S B : Ads} {H : Hp} {p : Addr} (c : Ctx S B H) (h : H p ≠ none) : Ctx S (fun a => B a ∨ a = p) H :=
  ⟨fun a q => .inl (c.sb a q), fun a q => q.elim (c.dom a) fun z => by rw [z]; exact h⟩
theorem SlL.va {S B : Ads} {k b0 : Nat} {H H' : Hp} (c : Ctx S B H) {vs : List V} {ss : List Sl} {fs : List Bool} {m : Nat} {P : List PyData → Nat → Prop} (h : SlL S k B b0 H H' vs ss fs) (w : (plOf ss).wp m P) : ∃ ds, DnL B H' vs ds ∧ P ds m := by
  have key : ∀ {B' : Ads} {b0 : Nat} {H H' : Hp} {vs : List V} {ss : List Sl} {fs : List Bool}, SlL S k B' b0 H H' vs ss fs → Ctx S B' H → (∀ a, B a → B' a) → ∀ {m : Nat} {P : List PyData → Nat → Prop}, (plOf ss).wp m P → ∃ ds, DnL B H' vs ds ∧ P ds m := by
    intro B' b0 H H' vs ss fs h
    induction h with
    | nil => intro _ _ m P w; exact ⟨[], .nil, w⟩
    | cons x h nf r ih =>
      intro c hb m P w
      cases h with
      | va h =>
        obtain ⟨ds, h1, h2⟩ := ih (c.ext x) hb (T.wp_bind.mp w)
        exact ⟨_, .cons ((h.ext (c.ext x) r.ext).unbar hb) h1, h2⟩
      | st h => exact w.elim
    | new x hp e z l r ih =>
      intro c hb m P w
      have cb := (c.ext x).bar (p := _) (by rw [e]; simp)
      obtain ⟨ds', h1, h2⟩ := ih cb (fun a q => .inl (hb a q)) (T.wp_bind.mp w)
      have np := c.nb hp
      exact ⟨_, .cons (.lst (r.ext.keep _ _ e fun q => np (c.sb _ q)) (fun q => np (hb _ q)) z ((l.ext cb r.ext).unbar fun a q => .inl (hb a q))) h1, h2⟩
  exact key h c (fun a q => q) w
theorem d_tup {k : Nat} (ha : PA X es (RdC fl fs)) : PE X (.Tuple es k pos) (RdE (fun ρ => (fl ρ).bind fun xs => (plOf xs).bind fun ds => .chk (small ds.length) (.ret (.tuple ds))) fr) :=
  (pe_tupN ha).imp fun σ H Q ⟨S, B, b, ρ, c, er, w⟩ => ⟨S, B, b, ρ, c, er, T.wp_mono (fun ss b1 w vs H1 x h => by
    obtain ⟨ds, h1, w⟩ := SlL.va c h (T.wp_bind.mp w)
    obtain ⟨h2, w⟩ := wp_chk w
    have h2 := small_le h2
    refine ⟨by rw [line_eq, h1.length]; exact h2, fun p o hp ho => w _ _ (x.trans (.alloc hp)) (.tup c x hp ho h2 h1)⟩) (T.wp_bind.mp w)⟩
theorem d_lst (ha : PA X es (RdC fl fs)) : PE X (.List es pos) (RdE (fun ρ => (fl ρ).bind fun xs => (plOf xs).bind fun ds => .chk (small ds.length) (.ret (.list ds))) fr) :=
  (pe_lst ha).imp fun σ H Q ⟨S, B, b, ρ, c, er, w⟩ => ⟨S, B, b, ρ, c, er, T.wp_mono (fun ss b1 w vs H1 x h => by
    obtain ⟨ds, h1, w⟩ := SlL.va c h (T.wp_bind.mp w)
    obtain ⟨h2, w⟩ := wp_chk w
    have h2 := small_le h2
    refine ⟨by rw [line_eq, h1.length]; exact h2, fun p hp => w _ _ (x.trans (.alloc hp)) (.new c x hp h2 h1)⟩) (T.wp_bind.mp w)⟩

/-! ### items, slices -/
theorem d_sub (ha : PE X a (RdR fa)) (hb : PE X b (RdR fb)) (hs : PlainIx b) : PE X (.Subscript a b pos) (RdE (fun ρ => (fa ρ).bind fun x => (fb ρ).bind fun y => subOp x y) false) :=
  (pe_ix op_sub_ ha hb hs).imp fun σ H Q ⟨S, B, b, ρ, c, er, w⟩ => RdR.thn c er w fun d1 b1 v1 H1 x1 h1 c1 er1 w => RdR.thn c1 er1 w fun d2 b2 v2 H2 x2 h2 c2 er2 w =>
    ⟨S, B, b2, d1, d2, c2, h1.ext c1 x2, h2, T.wp_mono (fun d b3 q v H' x3 r => q v H' ((x1.trans x2).trans x3) (r.pre (x1.trans x2))) w⟩
/-- a slice's part -/
def RdO (f : Rho → T (Option Int)) : TO := fun σ H Q => ∃ S B b ρ, Ctx S B H ∧ ER S B b σ H ρ ∧ (f ρ).wp b fun d b' => ∀ H', Ext S b b' H H' → Q d H'
theorem _root_.L2.PO.imp {X : Cx} {e : Option Expr} {t t' : TO} (h : PO X e t) (i : ∀ σ H Q, t' σ H Q → t σ H Q) : PO X e t' := ⟨fun pins s σ H Q I q => h.run pins s σ H Q I (i σ H Q q)⟩
theorem d_ono : PO X none (RdO fun _ => .ret none) := po_none.imp fun σ H Q ⟨S, B, b, ρ, c, er, w⟩ => w H .refl
theorem d_osome (ha : PE X a (RdE fa fr1)) : PO X (some a) (RdO fun ρ => (fa ρ).bind intOf) := (po_some ha).imp fun σ H Q ⟨S, B, b, ρ, c, er, w⟩ => RdE.thn c er w fun d b1 v H1 x r c1 er1 w => by
  unfold intOf at w
  split at w
  · rename_i i
    obtain rfl := (DnT.of (S := S) r.1).int
    exact ⟨i, rfl, w H1 x⟩
  · exact w.elim
theorem RdO.thn {S B : Ads} {b : Nat} {σ : L2.St} {H : Hp} {ρ : Rho} {β : Type} {fa : Rho → T (Option Int)} (c : Ctx S B H) (er : ER S B b σ H ρ) {g : Option Int → T β} {P : β → Nat → Prop} (w : ((fa ρ).bind g).wp b P) {R : Option Int → Hp → Prop}
    (k : ∀ d b1 H1, Ext S b b1 H H1 → Ctx S B H1 → ER S B b1 σ H1 ρ → (g d).wp b1 P → R d H1) : RdO fa σ H R :=
  ⟨S, B, b, ρ, c, er, T.wp_mono (fun d b1 w H1 x => k d b1 H1 x (c.ext x) (er.ext c x) w) (T.wp_bind.mp w)⟩
theorem d_sli {lo hi : Option Expr} {fo fh : Rho → T (Option Int)} {p2 : Pos} (ha : PE X a (RdR fa)) (hl : PO X lo (RdO fo)) (hh : PO X hi (RdO fh)) :
    PE X (.Subscript a (.Slice lo hi none p2) pos) (RdE (fun ρ => (fa ρ).bind fun x => (fo ρ).bind fun l => (fh ρ).bind fun h => sliOp x l h) fr) :=
  (pe_slice sl_any ha hl hh).imp fun σ H Q ⟨S, B, b, ρ, c, er, w⟩ => RdR.thn c er w fun d1 b1 v1 H1 x1 h1 c1 er1 w => RdO.thn c1 er1 w fun d2 b2 H2 x2 c2 er2 w => RdO.thn c2 er2 w fun d3 b3 H3 x3 c3 er3 w =>
    ⟨S, B, b3, d1, c3, (h1.ext c1 x2).ext c2 x3, T.wp_mono (fun d b4 q v H' x4 r => q v H' (((x1.trans x2).trans x3).trans x4) (r.weak.pre ((x1.trans x2).trans x3))) w⟩
theorem d_rev {k : Nat} {p1 p2 p3 : Pos} (ha : PE X a (RdR fa)) : PE X (.Subscript a (.Slice none none (some (.UnaryOp .USub (.Constant (.int 1) k p1) p2)) p3) pos) (RdE (fun ρ => (fa ρ).bind fun x => revOp x) false) :=
  (pe_revD ha).imp fun σ H Q ⟨S, B, b, ρ, c, er, w⟩ => RdR.thn c er w fun d b1 v H1 x h c1 er1 w => by
    unfold revOp at w
    split at w
    · obtain ⟨a1, o1, xs1, rfl, e1, k1, n1, z1, l1⟩ := h.tuple
      exact .inr ⟨a1, xs1, rfl, .inl (.inr ⟨o1, e1⟩), fun p o hp ho => w _ _ (x.trans (.alloc hp)) (.tup c x hp ho (by rw [List.length_reverse]; exact z1) l1.reverse)⟩
    · obtain ⟨a1, xs1, rfl, e1, z1, l1⟩ := h.list
      exact .inl ⟨a1, xs1, rfl, SqL.of e1, fun p hp => w _ _ (x.trans (.alloc hp)) (.new c x hp (by rw [List.length_reverse]; exact z1) l1.reverse)⟩
    · exact w.elim

/-! ### argument lists -/
theorem d_anil : PA X [] (RdAP (fun _ => .ret []) fun _ => true) := pa_nil.imp fun σ H Q ⟨S, B, b, ρ, c, er, w⟩ => w [] H .refl .nil fun _ => .nil
theorem star1 {env : Env} (h : noStar a = true) : starEach (a :: es) env = (false, eval a env) :: starEach es env := by
  cases a <;> first | rfl | exact nomatch (show false = true from h)
theorem d_acons {pa pr : Rho → Bool} {fas : Rho → T (List PyData)} (hs : noStar a = true) (ha : PE X a (RdP fa pa)) (hr : PA X es (RdAP fas pr)) :
    PA X (a :: es) (RdAP (fun ρ => (fa ρ).bind fun x => (fas ρ).bind fun xs => .ret (x :: xs)) fun ρ => pa ρ && pr ρ) :=
  (pa_cons ha hr (star1 hs)).imp fun σ H Q ⟨S, B, b, ρ, c, er, w⟩ => ⟨S, B, b, ρ, c, er, T.wp_mono (fun d b1 w v H1 x h hp => by
    refine ⟨S, B, b1, ρ, c.ext x, er.ext c x, T.wp_mono (fun ds b2 w vs H2 x2 h2 hp2 => ?_) (T.wp_bind.mp w)⟩
    refine w (v :: vs) H2 (x.trans x2) (.cons (h.ext (c.ext x) x2) h2) fun z => ?_
    have z : (pa ρ && pr ρ) = true := z
    rw [Bool.and_eq_true] at z
    exact .cons ((hp z.1).ext (c.ext x) x2) (hp2 z.2)) (T.wp_bind.mp w)⟩
end
end RG
end

section
set_option Elab.async false
set_option linter.all false
set_option maxRecDepth 100000
set_option maxHeartbeats 4000000
/-! Calls by data. -/
namespace RG
open PySem PySem.Spec PySem.Calls PyProof.Rows L2

/-! ### argument lists by slots -/
inductive SlDL (S B : Ads) (b : Nat) (H : Hp) : List V → List Sl → Prop where
  | nil : SlDL S B b H [] []
  | cons {v : V} {s : Sl} {vs : List V} {ss : List Sl} : SlD S B b H v s → SlDL S B b H vs ss → SlDL S B b H (v :: vs) (s :: ss)
theorem SlDL.length {S B : Ads} {b : Nat} {H : Hp} : ∀ {vs : List V} {ss : List Sl}, SlDL S B b H vs ss → vs.length = ss.length
  | _, _, .nil => rfl
  | _, _, .cons _ r => by rw [List.length_cons, List.length_cons, SlDL.length r]
theorem SlD.ext {S B : Ads} {b b1 : Nat} {H H1 : Hp} {v : V} {s : Sl} (h : SlD S B b H v s) (c : Ctx S B H) (x : Ext S b b1 H H1) : SlD S B b1 H1 v s := by
  cases h with
  | va h => exact .va (h.ext c x)
  | st h => exact .st (x.st _ h)
theorem SlL.flat {S B : Ads} {b b0 : Nat} {H H' : Hp} {vs : List V} {ss : List Sl} {fs : List Bool} (c : Ctx S B H) (h : SlL S b B b0 H H' vs ss fs) : SlDL S B b H' vs ss := by
  have key : ∀ {B' : Ads} {b0 : Nat} {H H' : Hp} {vs : List V} {ss : List Sl} {fs : List Bool}, SlL S b B' b0 H H' vs ss fs → Ctx S B' H → (∀ a, B a → B' a) → SlDL S B b H' vs ss := by
    intro B' b0 H H' vs ss fs h
    induction h with
    | nil => intro _ _; exact .nil
    | cons x h nf r ih =>
      intro c hb
      refine .cons ?_ (ih (c.ext x) hb)
      cases h with
      | va h => exact .va ((h.ext (c.ext x) r.ext).unbar hb)
      | st h => exact .st (r.ext.st _ h)
    | new x hp e z l r ih =>
      intro c hb
      have cb := (c.ext x).bar (p := _) (by rw [e]; simp)
      have np := c.nb hp
      exact .cons (.va (.lst (r.ext.keep _ _ e fun q => np (c.sb _ q)) (fun q => np (hb _ q)) z ((l.ext cb r.ext).unbar fun a q => .inl (hb a q)))) (ih cb fun a q => .inl (hb a q))
  exact key h c fun a q => q
theorem ER.bar {S B : Ads} {b b1 : Nat} {σ : L2.St} {H H1 : Hp} {ρ : Rho} {p : Addr} (e : ER S B b σ H ρ) (c : Ctx S B H) (x : Ext S b b1 H H1) (hp : H p = none) : ER S (fun a => B a ∨ a = p) b1 σ H1 ρ where
  len := e.len
  va := fun i d h => let ⟨v, h1, h2⟩ := e.va i d h; ⟨v, h1, h2.imp fun a o q n => ⟨x.keep a o q fun z => n (c.sb a z), fun z => z.elim n fun z => by subst z; rw [hp] at q; cases q⟩⟩
  ow := fun i d h => by
    have hk : ∀ a o, H a = some o → ¬ B a → H1 a = some o ∧ ¬ (B a ∨ a = p) := fun a o q n => ⟨x.keep a o q fun z => n (c.sb a z), fun z => z.elim n fun z => by subst z; rw [hp] at q; cases q⟩
    obtain ⟨a, h1, h2, h3, h4⟩ := e.ow i d h
    refine ⟨a, h1, .inl h2, h3, ?_⟩
    cases h4 with
    | of h4 => exact .of (h4.imp hk)
    | own q n z l => exact .own (x.keep _ _ q n) n z (l.imp hk)
  st := fun i h => let ⟨a, h1, h2⟩ := e.st i h; ⟨a, h1, x.st a h2⟩
  dis := e.dis
/-- one argument: a value or the state -/
inductive SlRes (fr : Bool) (S B : Ads) (b : Nat) (H H' : Hp) : V → Sl → Prop where
  | va {v : V} {d : PyData} : Res fr B H H' v d → SlRes fr S B b H H' v (.va d)
  | st {a : Addr} : StA S b H' a → SlRes fr S B b H H' (.ref a) .st
def RdS (f : Rho → T Sl) (fr : Bool) : TE := fun σ H Q => ∃ S B b ρ, Ctx S B H ∧ ER S B b σ H ρ ∧ (f ρ).wp b fun d b' => ∀ v H', Ext S b b' H H' → SlRes fr S B b' H H' v d → Q v H'
section
variable {X : Cx} {e a : Expr} {es : List Expr} {pos : Pos} {fa : Rho → T PyData} {fl : Rho → T (List Sl)} {fs : List Bool} {fr : Bool}
theorem RdS.of (h : PE X e (RdE fa fr)) : PE X e (RdS (fun ρ => (fa ρ).bind fun d => .ret (.va d)) fr) :=
  h.imp fun σ H Q ⟨S, B, b, ρ, c, er, w⟩ => ⟨S, B, b, ρ, c, er, T.wp_mono (fun d b' q v H' x r => q v H' x (.va r)) (T.wp_bind.mp w)⟩
theorem d_varS {i : Nat} {x : Str} (hN : X.N[i]? = some x) (hv : Vis X.env.scope x) (hd : (x == ("__debug__" : Str)) = false) (hcd : (x == ("__classdict__" : Str)) = false) :
    PE X (.Name x pos) (RdS (fun ρ => getS ρ i) false) :=
  (pe_var hN hv hd hcd).imp fun σ H Q ⟨S, B, b, ρ, c, er, w⟩ => by
    have w : (getS ρ i).wp b fun d b' => ∀ v H', Ext S b b' H H' → SlRes false S B b' H H' v d → Q v H' := w
    unfold getS at w
    split at w
    · rename_i d hd
      obtain ⟨v, h1, h2⟩ := er.va i d hd
      exact ⟨v, h1, w v H .refl (.va (.of h2))⟩
    · rename_i hd
      obtain ⟨a, h1, h2⟩ := er.st i hd
      exact ⟨_, h1, w _ H .refl (.st h2)⟩
    · exact w.elim
theorem d_cnil : PA X [] (RdC (fun _ => .ret []) []) := pa_nil.imp fun σ H Q ⟨S, B, b, ρ, c, er, w⟩ => w [] H .refl (.nil .refl)
theorem d_ccons {fa : Rho → T Sl} (hs : noStar a = true) (ha : PE X a (RdS fa fr)) (hr : PA X es (RdC fl fs)) : PA X (a :: es) (RdC (fun ρ => (fa ρ).bind fun x => (fl ρ).bind fun xs => .ret (x :: xs)) (fr :: fs)) :=
  (pa_cons ha hr (star1 hs)).imp fun σ H Q ⟨S, B, b, ρ, c, er, w⟩ => ⟨S, B, b, ρ, c, er, T.wp_mono (fun d b1 w v H1 x h => by
    have c1 := c.ext x
    have er1 := er.ext c x
    have norm : SlD S B b1 H1 v d → (fr = true → ∀ ds, d ≠ .va (.list ds)) → RdC fl fs σ H1 fun xs H2 => Q (v :: xs) H2 := fun s' nf => by
      refine ⟨S, B, b1, ρ, c1, er1, T.wp_mono (fun ss b2 w vs H2 x2 l => ?_) (T.wp_bind.mp w)⟩
      exact w (v :: vs) H2 (x.trans x2) (.cons x s' nf l)
    cases h with
    | st h => exact norm (.st h) (fun _ ds e => nomatch e)
    | va h =>
      rename_i d
      by_cases hf : fr = true ∧ ∃ ds, d = .list ds
      · obtain ⟨hf, ds, rfl⟩ := hf
        subst hf
        obtain ⟨p, xs, rfl, hp, e1, l1⟩ := h.2 rfl ds rfl
        have hz : ds.length ≤ 16777216 := by
          cases h.1 with
          | lst _ _ z _ => exact z
        refine ⟨S, fun a => B a ∨ a = p, b1, ρ, c1.bar (by rw [e1]; simp), er.bar c x hp, T.wp_mono (fun ss b2 w vs H2 x2 l => ?_) (T.wp_bind.mp w)⟩
        exact w _ _ (x.trans x2) (.new x hp e1 hz l1 l)
      · exact norm (.va h.1) (fun q ds e => hf ⟨q, ds, by cases e; rfl⟩)) (T.wp_bind.mp w)⟩

/-! ### built-in functions -/
theorem star_plain {env : Env} : ∀ {es : List Expr}, (∀ e ∈ es, noStar e = true) → (backTo pos (starEach es env)).any (·.1) = false
  | [], _ => rfl
  | e :: es, h => by
    rw [star1 (h e List.mem_cons_self)]
    show (false || (backTo pos (starEach es env)).any (·.1)) = false
    rw [star_plain fun e q => h e (List.mem_cons_of_mem _ q)]
    rfl
variable {fas : Rho → T (List PyData)} {x : Str} {p : Pos}
theorem rdFn {f : List PyData → T PyData} {fr1 : Bool} (hfr : fr1 = true ∨ fr = false) {t : TA} (ht : ∀ σ H Q, RdA fas σ H Q → t σ H Q) {σ : L2.St} {H : Hp} {Q : VK} (h : RdE (fun ρ => (fas ρ).bind fun ds => f ds) fr σ H Q) : tCB (rFn fr1 f) t σ H Q := by
  obtain ⟨S, B, b, ρ, c, er, w⟩ := h
  refine ht σ H _ (RdA.thn c er w fun ds b1 vs H1 x1 h1 c1 er1 w => ⟨S, B, b1, ds, c1, h1, T.wp_mono (fun d b2 q v H2 x2 r => q v H2 (x1.trans x2) ?_) w⟩)
  rcases hfr with hfr | hfr
  · subst hfr
    exact r.weak.pre x1
  · subst hfr
    exact .of r.1
theorem d_fn {as : E} (hf : (fnTy.contains x || fnB.contains x) = true) (hu : X.A.units + 70 < cLine) (hc : X.calm = true) (hgd : X.A.guards = some []) (hg : Gl X x) (hm : X.mg x = none) (hst : ∀ e ∈ a :: es, noStar e = true) (ha : PA X (a :: es) (RdA fas)) :
    PE X (.Call (.Name x p) (a :: es) [] pos) (RdE (fun ρ => (fas ρ).bind fun ds => fnOp x ds) (isFr (.fn x as))) := by
  have hs : starEach (a :: es) X.env = (false, eval a X.env) :: starEach es X.env := star1 (hst a List.mem_cons_self)
  have hpl : (backTo pos (starEach es X.env)).any (·.1) = false := star_plain fun e q => hst e (List.mem_cons_of_mem _ q)
  have hx : x = "tuple" ∨ x = "len" ∨ x = "abs" ∨ x = "sum" ∨ x = "all" ∨ x = "sorted" ∨ x = "repr" := by
    simpa [fnTy, fnB] using hf
  rcases hx with rfl | rfl | rfl | rfl | rfl | rfl | rfl
  · exact (pe_callTy cf_tuple hg hm (by decide +kernel) ha (he := hs) (hpl := hpl)).imp fun σ H Q h => rdFn (.inr rfl) (fun _ _ _ h => h) h
  · exact (pe_callB cf_len hg hm (by decide +kernel) ha (he := hs) (hpl := hpl)).imp fun σ H Q h => rdFn (.inr rfl) (fun _ _ _ h => h) h
  · exact (pe_callB cf_abs hg hm (by decide +kernel) ha (he := hs) (hpl := hpl)).imp fun σ H Q h => rdFn (.inr rfl) (fun _ _ _ h => h) h
  · exact (pe_callB (cf_sum hc) hg hm (by decide +kernel) ha (he := hs) (hpl := hpl)).imp fun σ H Q h => rdFn (.inr rfl) (fun _ _ _ h => h) h
  · exact (pe_callB (cf_all hc) hg hm (by decide +kernel) ha (he := hs) (hpl := hpl)).imp fun σ H Q h => rdFn (.inr rfl) (fun _ _ _ h => h) h
  · exact (pe_callB cf_sorted hg hm (by decide +kernel) ha (he := hs) (hpl := hpl)).imp fun σ H Q h => rdFn (.inl rfl) (fun _ _ _ h => h) h
  · exact (pe_callB (cf_repr hu hgd) hg hm (by decide +kernel) ha (he := hs) (hpl := hpl)).imp fun σ H Q h => rdFn (.inr rfl) (fun _ _ _ h => h) h

/-! ### methods, isinstance -/
theorem attr_base {o : Expr} {m : Str} {env : Env} {w : Sem Value} (h : noCall0 o = true) : attributeBase o m env w = w := by
  unfold attributeBase
  split
  · exact nomatch (show false = true from h)
  · rfl
theorem d_met {o : Expr} {fo : Rho → T PyData} {apos cpos : Pos} (h0 : noCall0 o = true) (hl : (apos.endLine == cpos.line) = true) (hlen : es.length < 20) (hst : ∀ e ∈ a :: es, noStar e = true) (ho : PE X o (RdR fo)) (ha : PA X (a :: es) (RdA fas)) :
    PE X (.Call (.Attribute o "count" apos) (a :: es) [] cpos) (RdE (fun ρ => (fo ρ).bind fun x => (fas ρ).bind fun ds => metOp "count" x ds) false) := by
  have hs : starEach (a :: es) X.env = (false, eval a X.env) :: starEach es X.env := star1 (hst a List.mem_cons_self)
  have hpl : (backTo cpos (starEach es X.env)).any (·.1) = false := star_plain fun e q => hst e (List.mem_cons_of_mem _ q)
  have hpl2 : (backTo cpos (starEach (a :: es) X.env)).any (·.1) = false := star_plain hst
  refine (pe_metD ho ha (attr_base h0) ?_ hl hs hpl).imp fun σ H Q ⟨S, B, b, ρ, c, er, w⟩ => RdR.thn c er w fun d b1 v H1 x1 h1 c1 er1 w => ?_
  · rw [Bool.and_eq_true, Bool.and_eq_true]
    refine ⟨⟨?_, rfl⟩, decide_eq_true (by show es.length + 1 + 0 + 0 < 30; omega)⟩
    rw [List.any_eq_false] at hpl2
    rw [List.all_eq_true]
    intro x hx
    have := hpl2 x hx
    cases q : x.1 with
    | false => rfl
    | true => rw [q] at this; exact absurd rfl this
  · obtain ⟨S', B', b', ρ', c', er', w'⟩ : RdA fas σ H1 (fun vs H2 => rMet false metCount v vs H2 Q) := RdA.thn c1 er1 w fun ds b2 vs H2 x2 h2 c2 er2 w =>
      ⟨S, B, b2, d, ds, c2, h1.ext c1 x2, h2, T.wp_mono (fun d b3 q v H3 x3 r => q v H3 ((x1.trans x2).trans x3) (r.pre (x1.trans x2))) w⟩
    have no : ∀ {α : Type} {t : T α} {b : Nat} {P : α → Nat → Prop}, (∀ a b, ¬ P a b) → ¬ t.wp b P := by
      intro α t
      induction t with
      | ret a => intro b P h; exact h a b
      | fail => intro b P h; exact id
      | draw n k ih => intro b P h ⟨⟨h1, h2, h3⟩, q⟩; exact ih 0 h (q 0 (Int.le_refl _) h1)
    have ty : tyD "tuple" v H1 ∨ ∀ ds b P, ¬ (metCount d ds).wp b P := by
      cases d with
      | tuple i =>
        obtain ⟨a1, o1, xs1, rfl, e1, k1, n1, z1, l1⟩ := h1.tuple
        exact .inl (.inr ⟨rfl, o1, xs1, e1, k1⟩)
      | _ => exact .inr fun ds b P => id
    rcases ty with ty | ty
    · exact ⟨"tuple", "tuple.count", _, F.plainAttrs_tuple, PySem.F.slot_tuple_count, rfl, ty, mt_tcount, ⟨S', B', b', ρ', c', er', w'⟩⟩
    · exact ⟨"tuple", "tuple.count", _, F.plainAttrs_tuple, PySem.F.slot_tuple_count, rfl, (no (fun ds b q => ty ds b _ q) (T.wp_bind.mp w)).elim, mt_tcount, ⟨S', B', b', ρ', c', er', w'⟩⟩
end

/-! ### own functions -/
/-- no exception leaves a def -/
def CX0 : CXT := fun _ _ _ _ _ _ => False
def spF (Ψ : List Sl → T PyData) (n : Nat) : List V → Hp → VK → Prop := fun vs H Q => ∃ S B b ss, vs.length = n ∧ Ctx S B H ∧ SlDL S B b H vs ss ∧ (Ψ ss).wp b fun d b' => ∀ v H', Ext S b b' H H' → Dn B H' v d → Q v H'
structure FnG (P : Program) (w : World) (K : PySem.W.Frag) (mg : Str → Option Value) (base : Heap) (k : Nat) (f : Addr) (fd : FuncData) (ps : List Str) (Ψ : List Sl → T PyData) : Prop where
  run : ∀ (A : Around) (outer : List Env) (s : Shared) (H : Hp) (args : Args) (us : List Value) (vs : List V) (Q : VK) (E : XK), Room k A → A.guards = some [] → Env0 P w K mg base A outer s H → BindsTo s fd args (ps.zip us) → Vals vs us → spF Ψ ps.length vs H Q →
    codeAny (model P w) A (.call (.ref f) args) (CR CX0 outer P w H s Q E) s
theorem no_wp {α : Type} {t : T α} : ∀ {b : Nat} {P : α → Nat → Prop}, (∀ a b, ¬ P a b) → ¬ t.wp b P := by
  induction t with
  | ret a => intro b P h; exact h a b
  | fail => intro b P h; exact id
  | draw n k ih => intro b P h ⟨⟨h1, h2, h3⟩, q⟩; exact ih 0 h (q 0 (Int.le_refl _) h1)
section
variable {X : Cx} {x : Str} {p pos : Pos} {e : Expr} {es : List Expr} {k : Nat} {f : Addr} {fd : FuncData} {ps : List Str} {Ψ : List Sl → T PyData} {fl : Rho → T (List Sl)} {fs : List Bool}
theorem run_fnG {pins : List (Addr × Obj)} {σ : L2.St} {H : Hp} {s : Shared} {Q : VK} {us : List Value} {vs : List V} (F : FnG X.prog X.w X.K X.mg X.base k f fd ps Ψ) (hr : Room k X.A) (hgd : X.A.guards = some []) (hb : Binds X.K fd ps [])
    (I : L2.Inv X pins σ H s) (r : Vals vs us) (h : spF Ψ ps.length vs H Q) : wpAny (model X.prog X.w) X.A (call (.ref f) us) (EP X pins σ Q) X.xe s := by
  obtain ⟨S, B, b, ss, hl, q⟩ := id h
  have hb := hb s us I.kIn (by rw [List.append_nil, ← r.length]; exact hl)
  rw [List.append_nil] at hb
  refine wpAny_call (codeAny_mono (F.run X.A X.stack s H ⟨us, []⟩ us vs Q (fun _ _ _ => False) hr hgd I.env0 hb r h) fun r s' hq => ?_)
  cases r with
  | error e => exact False.elim hq
  | ok fl =>
    cases fl with
    | ret u => exact I.after hq
    | next => exact False.elim hq
    | brk => exact False.elim hq
    | cont => exact False.elim hq
theorem pe_callG (F : FnG X.prog X.w X.K X.mg X.base k f fd ps Ψ) (hr : Room k X.A) (hgd : X.A.guards = some []) (hg : Gl X x) (hm : X.mg x = some (.ref f)) (hk : PySem.W.keepIn X.K (.ref f) = true) (hb : Binds X.K fd ps [])
    {t : TA} (ha : PA X (e :: es) t) (hdb : (x == ("__debug__" : Str)) = false) (he : starEach (e :: es) X.env = (false, eval e X.env) :: starEach es X.env) (hpl : (backTo pos (starEach es X.env)).any (·.1) = false) :
    PE X (.Call (.Name x p) (e :: es) [] pos) (fun σ H Q => t σ H fun vs H1 => spF Ψ ps.length vs H1 Q) := by
  refine ⟨fun pins s σ H Q I h => ?_⟩
  refine wpAny_Call_Name_kw (ld_glob I hg hm ?_ hdb)
  refine PySem.W.callWith_K (h₀ := X.base) I.ok.mod.kin hk (thn (ha.run pos pins s σ H _ I h) fun us s1 ⟨vs, H1, I1, r, q⟩ => ⟨I1.kIn, ?_⟩) he hpl
  exact run_fnG F hr hgd hb I1 r q
theorem d_call (F : FnG X.prog X.w X.K X.mg X.base k f fd ps Ψ) (hΨ : ∀ ss, ss.length ≠ ps.length → Ψ ss = .fail) (hr : Room k X.A) (hgd : X.A.guards = some []) (hg : Gl X x) (hm : X.mg x = some (.ref f)) (hk : PySem.W.keepIn X.K (.ref f) = true) (hb : Binds X.K fd ps [])
    (hdb : (x == ("__debug__" : Str)) = false) (hst : ∀ a ∈ e :: es, noStar a = true) (ha : PA X (e :: es) (RdC fl fs)) :
    PE X (.Call (.Name x p) (e :: es) [] pos) (RdE (fun ρ => (fl ρ).bind fun xs => Ψ xs) false) :=
  (pe_callG F hr hgd hg hm hk hb ha hdb (star1 (hst e List.mem_cons_self)) (star_plain fun a q => hst a (List.mem_cons_of_mem _ q))).imp fun σ H Q ⟨S, B, b, ρ, c, er, w⟩ =>
    ⟨S, B, b, ρ, c, er, T.wp_mono (fun ss b1 w vs H1 x l => by
      have l1 := l.flat c
      refine ⟨S, B, b1, ss, ?_, c.ext x, l1, T.wp_mono (fun d b2 q v H2 x2 h => q v H2 (x.trans x2) (.of h)) w⟩
      rw [l1.length]
      by_cases q : ss.length = ps.length
      · exact q
      · rw [hΨ ss q] at w
        exact w.elim) (T.wp_bind.mp w)⟩
end
/-- a def by its body, for any promise -/
theorem fn_ofS {P : Program} {w : World} {K : PySem.W.Frag} {mg : Str → Option Value} {base : Heap} {k : Nat} {f : Addr} {name qual : Str} {params : Arguments} {body : List Stmt} {scope : Scope} {dV kV doc pm cdv ct oc : Value} {an od : Option Addr}
    {osl : Array (Option Value)} {N ps : List Str} {sp : List V → Hp → VK → Prop} (lk : K.lookup f = some ⟨oc, od, .func (PySem.W.fnOf name qual params body scope dV kV doc pm an cdv ct), osl⟩) (hcd : PySem.W.codeIn K cdv qual = true) (FS : FnScope N ps scope)
    (len : ∀ vs H Q, sp vs H Q → vs.length = ps.length)
    (hbody : ∀ (A : Around) (outer : List Env) (s : Shared) (H : Hp) (vs : List V) (Q : VK) (E : XK), Room k (A.deeper (envOfC qual scope s.heap.objs.size f cdv)) → A.guards = some [] → sp vs H Q →
      ∃ t, PSs (cxOf CX0 P w K mg base N qual scope f cdv A outer s H E) body t ∧ t { nx := fun _ H' => Q .non H', rt := Q } (L2.start N vs) H)
    (A : Around) (outer : List Env) (s : Shared) (H : Hp) (args : Args) (us : List Value) (vs : List V) (Q : VK) (E : XK) (hr : Room (k + 1) A) (hgd : A.guards = some []) (e0 : Env0 P w K mg base A outer s H) (hb : BindsTo s (PySem.W.fnOf name qual params body scope dV kV doc pm an cdv ct) args (ps.zip us)) (r : Vals vs us) (hsp : sp vs H Q) :
    codeAny (model P w) A (.call (.ref f) args) (CR CX0 outer P w H s Q E) s := by
  have hl : vs.length = ps.length := len _ _ _ hsp
  have KX : K.In s.heap := e0.mod.kin.keeps fun b o e => (e0.bs b o e).1
  have lim : s.heap.NoLimit := e0.mod.nolimit.keeps fun b o e => (e0.bs b o e).1
  have hkind : ∀ y ∈ ps.zip us, scope.names.lookup y.1 = some .local ∨ (scope.names.lookup y.1 = some .cell ∧ ((cellsFrom (s.heap.objs.size + 1) scope.names []).lookup y.1).isSome = true) := fun ⟨n, v⟩ hy => by
    rcases FS.par n (List.of_mem_zip hy).1 with q | q
    · exact .inl q
    · exact .inr ⟨q, PySem.W.cellsFrom_some _ _ _ (.inl q)⟩
  refine codeAny_call_function hr.depth (KX _ _ lk) rfl FS.co FS.gen rfl (PySem.W.codeRec_of KX hcd) (hb _ _ _ _ ?_)
  refine wpAny_newFunctionEnv_cells FS.kind hkind fun env he s1 x => ?_
  subst he
  refine ⟨lim.keeps x.toInCall.keep, codeAny_func ?_⟩
  obtain ⟨t, ht, hq⟩ := hbody A outer s H vs Q E (hr.deeper _) hgd hsp
  have I : L2.Inv (cxOf CX0 P w K mg base N qual scope f cdv A outer s H E) [] (L2.start N vs) H s1 := inv_start FS hr.hd e0 hl r x
  refine wpAny_mono (ht.run [] s1 (L2.start N vs) H _ I hq) (fun fl s' hs => ?_) fun e s' hs => hs
  have fin : ∀ {σ' : L2.St} {H' : Hp} {v : V} {u : Value}, L2.Inv (cxOf CX0 P w K mg base N qual scope f cdv A outer s H E) [] σ' H' s' → RelV v u → Q v H' → CE outer P w H s Q u s' :=
    fun {σ' H' v u} J rv q => ⟨v, H', J.os, J.bare, J.base, J.hok, rv, q⟩
  cases fl with
  | ret u =>
    obtain ⟨v, σ', H', J, rv, q⟩ := hs
    exact fin J rv q
  | next =>
    obtain ⟨σ', H', J, q⟩ := hs
    exact fin (v := V.non) (u := Value.none) J rfl q
  | brk =>
    obtain ⟨_, _, _, q⟩ := hs
    exact False.elim q
  | cont =>
    obtain ⟨_, _, _, q⟩ := hs
    exact False.elim q
/-- a def by its body -/
theorem fn_ofG {P : Program} {w : World} {K : PySem.W.Frag} {mg : Str → Option Value} {base : Heap} {k : Nat} {f : Addr} {name qual : Str} {params : Arguments} {body : List Stmt} {scope : Scope} {dV kV doc pm cdv ct oc : Value} {an od : Option Addr}
    {osl : Array (Option Value)} {N ps : List Str} {Ψ : List Sl → T PyData} (lk : K.lookup f = some ⟨oc, od, .func (PySem.W.fnOf name qual params body scope dV kV doc pm an cdv ct), osl⟩) (hcd : PySem.W.codeIn K cdv qual = true) (FS : FnScope N ps scope)
    (hbody : ∀ (A : Around) (outer : List Env) (s : Shared) (H : Hp) (vs : List V) (Q : VK) (E : XK), Room k (A.deeper (envOfC qual scope s.heap.objs.size f cdv)) → A.guards = some [] → spF Ψ ps.length vs H Q →
      ∃ t, PSs (cxOf CX0 P w K mg base N qual scope f cdv A outer s H E) body t ∧ t { nx := fun _ H' => Q .non H', rt := Q } (L2.start N vs) H) :
    FnG P w K mg base (k + 1) f (PySem.W.fnOf name qual params body scope dV kV doc pm an cdv ct) ps Ψ := by
  exact ⟨fun A outer s H args us vs Q E hr hgd e0 hb r hsp => fn_ofS lk hcd FS (fun vs H Q ⟨_, _, _, _, h, _⟩ => h) hbody A outer s H args us vs Q E hr hgd e0 hb r hsp⟩
end RG
end

section
set_option Elab.async false
set_option linter.all false
set_option maxRecDepth 100000
set_option maxHeartbeats 4000000
/-! isinstance, iterators, targets, comprehensions by data. -/
namespace RG
open PySem PySem.Spec PySem.Calls PyProof.Rows L2

section
variable {X : Cx} {a : Expr} {fa : Rho → T PyData}
theorem boot_tys : (tys.all fun ty => decide (bootBuiltins (Str.ofString ty) = some (.type ty))) = true := by decide +kernel
theorem d_isi {ty : String} {ta : Str} {p q pos : Pos} {fr : Bool} (hty : tys.contains ty = true) (et : ta = Str.ofString ty) (hg : Gl X "isinstance") (hm : X.mg "isinstance" = none) (hg2 : Gl X ta) (hm2 : X.mg ta = none) (hn : ta ≠ "__name__") (hd : (ta == ("__debug__" : Str)) = false)
    (hs : noStar a = true) (ha : PE X a (RdR fa)) : PE X (.Call (.Name "isinstance" p) [a, .Name ta q] [] pos) (RdE (fun ρ => (fa ρ).bind fun x => (isiOp ty x).bind fun k => .ret (.bool k)) fr) := by
  have hb : bootBuiltins ta = some (.type ty) := by
    have h := List.all_eq_true.mp boot_tys ty (by simpa using hty)
    rw [et]
    exact of_decide_eq_true h
  have h2 : PE X (.Name ta q) (tC (.ty ty)) := pe_bltn hg2 hm2 hb rfl hn hd
  refine (pe_callB (cf_isi hty) hg hm (by decide +kernel) (pa_cons ha (pa_cons h2 pa_nil) (star1 hs)) (he := star1 hs) (hpl := rfl)).imp fun σ H Q ⟨S, B, b, ρ, c, er, w⟩ => RdR.thn c er w fun d b1 v H1 x1 h1 c1 er1 w => ?_
  exact ⟨v, rfl, S, B, b1, d, c1, h1, T.wp_mono (fun k b2 q H2 x2 => (show ∀ v H', Ext S b b2 H H' → Res fr B H H' v (.bool k) → Q v H' from q) (.bl k) H2 (x1.trans x2) .bl) (T.wp_bind.mp w)⟩
end

/-! ### what is walked -/
def RdI (f : Rho → T (List PyData)) (pl : Rho → Bool) : TI := fun σ H R => ∃ S B b ρ, Ctx S B H ∧ ER S B b σ H ρ ∧ (f ρ).wp b fun ds b' => ∀ (J : It) (H1 : Hp) (Sup : Ads), Ext S b b' H H1 → ds.length ≤ 16777216 →
  (∀ a, Sup a → ¬ S a ∧ H1 a ≠ none) → (pl ρ = true → ∀ a, Sup a → ¬ B a) → Walk J ds.length (fun H2 => ∀ a, Sup a → H2 a = H1 a) J.yld →
  (∀ (i : Nat) (H2 : Hp) (x : V) (H3 : Hp), i < ds.length → (∀ a, Sup a → H2 a = H1 a) → J.yld i H2 x H3 → ∀ (B' : Ads) (b0 : Nat), Ctx S B' H2 → (∀ v d, Dn B H1 v d → Dn B' H2 v d) → ∃ d, ds[i]? = some d ∧ Ext S b0 b0 H2 H3 ∧ Dn B' H3 x d) → R J H1
theorem yself {J : It} {n : Nat} {G : Hp → Prop} {Y : Nat → Hp → V → Hp → Prop} (w : Walk J n G Y) : Walk J n G J.yld := ⟨w.goes, w.stops, fun _ _ _ _ _ _ y => y⟩
/-- a list or a tuple that is walked -/
theorem src_of {S B : Ads} {H1 : Hp} {v : V} {d : PyData} {ds : List PyData} {m : Nat} {P : List PyData → Nat → Prop} (c : Ctx S B H1) (h : DnT S B H1 v d) (w : (itOp d).wp m P) :
    ∃ (k : Sk) (xs : List V) (ds : List PyData), v = Sk.val k ∧ P ds m ∧ DnL B H1 xs ds ∧ ds.length ≤ 16777216 ∧ (∀ K, k.rd K H1 xs) ∧ (∀ K H2, (∀ a, a ∈ k.fp → H2 a = H1 a) → k.rd K H2 xs) ∧ (∀ a, a ∈ k.fp → ¬ S a ∧ H1 a ≠ none) ∧ (Dn B H1 v d → ∀ a, a ∈ k.fp → ¬ B a) ∧
      (∀ K, Walk (ItV K k) xs.length (fun H2 => k.rd K H2 xs) (YAt xs)) := by
  unfold itOp at w
  split at w
  · rename_i ds
    have hns : ∃ a xs, v = .ref a ∧ H1 a = some (.lst xs) ∧ ds.length ≤ 16777216 ∧ DnL B H1 xs ds ∧ ¬ S a := by
      cases h with
      | of h =>
        cases h with
        | lst e n z l => exact ⟨_, _, rfl, e, z, l, fun q => n (c.sb _ q)⟩
      | own e n z l => exact ⟨_, _, rfl, e, z, l, n⟩
    obtain ⟨a, xs, rfl, e, z, l, ns⟩ := hns
    refine ⟨.l a, xs, ds, rfl, w, l, z, fun K => SqL.of e, fun K H2 g => SqL.of ((g a (by simp [Sk.fp])).trans e), fun b hb => ?_, fun q b hb => ?_, fun K => walk_list⟩
    · rw [show b = a by simpa [Sk.fp] using hb]
      exact ⟨ns, by rw [e]; simp⟩
    · rw [show b = a by simpa [Sk.fp] using hb]
      cases q with
      | lst _ n _ _ => exact n
  · rename_i ds
    obtain ⟨a, o, xs, rfl, e, k, n, z, l⟩ := h.tuple
    refine ⟨.t a, xs, ds, rfl, w, l, z, fun K => .inl (.inr ⟨o, e⟩), fun K H2 g => .inl (.inr ⟨o, (g a (by simp [Sk.fp])).trans e⟩), fun b hb => ?_, fun q b hb => ?_, fun K => walk_tup⟩
    · rw [show b = a by simpa [Sk.fp] using hb]
      exact ⟨fun q => n (c.sb _ q), by rw [e]; simp⟩
    · rw [show b = a by simpa [Sk.fp] using hb]
      exact n
  · exact w.elim
theorem enum_len : ∀ (k : Nat) (ds : List PyData), (enumFrom k ds).length = ds.length
  | _, [] => rfl
  | k, d :: ds => by rw [enumFrom, List.length_cons, List.length_cons, enum_len (k + 1) ds]
theorem enum_get : ∀ (k : Nat) (ds : List PyData) (i : Nat) (d : PyData), ds[i]? = some d → (enumFrom k ds)[i]? = some (.tuple [.int ((k + i : Nat) : Int), d])
  | _, [], _, _, e => by simp at e
  | k, x :: ds, 0, d, e => by simp at e; subst e; rfl
  | k, x :: ds, i + 1, d, e => by
    have h := enum_get (k + 1) ds i d (by simpa using e)
    show (enumFrom (k + 1) ds)[i]? = _
    rw [h, show k + 1 + i = k + (i + 1) by omega]
section
variable {X : Cx} {a : Expr} {es elts : List Expr} {fa : Rho → T PyData} {fas : Rho → T (List PyData)} {pl : Rho → Bool} {tg : Expr} {p pos tpos : Pos} {kk : Nat}
theorem d_ival (ha : PE X a (RdP fa pl)) : PI X tg a (RdI (fun ρ => (fa ρ).bind itOp) pl) :=
  (pi_valS ha).imp fun σ H R ⟨S, B, b, ρ, c, er, w⟩ => ⟨S, B, b, ρ, c, er, T.wp_mono (fun d b1 w v H1 x h hp => by
    obtain ⟨k, xs, ds, ev, q, l, z, r1, r2, f1, f2, wk⟩ := src_of (ds := []) (c.ext x) h w
    refine ⟨k, xs, ev, r1 _, q (ItV X.K k) H1 (fun a => a ∈ k.fp) x z f1 (fun z => f2 (hp z)) ?_ ?_⟩
    · have := yself ((wk X.K).mono (G' := fun H2 => ∀ a, a ∈ k.fp → H2 a = H1 a) (Y' := YAt xs) (fun H2 g => r2 _ H2 g) fun i H2 x H3 _ _ y => y)
      rw [l.length] at this
      exact this
    · intro i H2 x H3 hi g y B' b0 c' hd
      obtain ⟨rfl, hx⟩ := (wk X.K).yields i H2 x H3 (by rw [l.length]; exact hi) (r2 _ H2 g) y
      obtain ⟨d, h1, h2⟩ := l.getV hx
      exact ⟨d, h1, .refl, hd _ _ h2⟩) (T.wp_bind.mp w)⟩
theorem Walk.rng {lo : Int} {n : Nat} {H1 : Hp} : Walk (Itr lo n) n (fun H2 => ∀ a : Addr, False → H2 a = H1 a) (Itr lo n).yld :=
  yself (walk_range.mono (G' := fun H2 => ∀ a : Addr, False → H2 a = H1 a) (Y' := YFn fun i => .int (lo + i)) (fun _ _ => trivial) fun _ _ _ _ _ _ y => y)
theorem rng_len (lo : Int) (n : Nat) : (rngItems lo n).length = n := by simp [rngItems]
theorem rng_get {lo : Int} {n i : Nat} (hi : i < n) : (rngItems lo n)[i]? = some (.int (lo + (i : Int))) := by
  unfold rngItems
  rw [List.getElem?_map, List.getElem?_range hi]
  rfl
theorem d_irng1 (hs : noStar a = true) (hg : Gl X "range") (hm : X.mg "range" = none) (ha : PE X a (RdR fa)) :
    PI X tg (.Call (.Name "range" p) [a] [] pos) (RdI (fun ρ => ((fa ρ).bind fun x => (T.ret []).bind fun xs => .ret (x :: xs)).bind rngOp) fun _ => true) :=
  (pi_range1 hg hm (pa_cons ha pa_nil (star1 hs)) (star1 hs)).imp fun σ H R ⟨S, B, b, ρ, c, er, w⟩ => by
    dsimp only at w
    rw [T.bind_assoc] at w
    refine RdR.thn c er w fun d b1 v H1 x h c1 er1 w => ?_
    have w : (rngOp [d]).wp b1 _ := w
    unfold rngOp at w
    split at w
    · rename_i n e
      cases e
      obtain rfl := h.int
      obtain ⟨h1, w⟩ := wp_chk w
      unfold bnd at h1
      simp only [Bool.and_eq_true, decide_eq_true_eq] at h1
      have h2 := small_le h1.2
      refine ⟨n, rfl, by omega, by omega, w (Itr 0 n.toNat) H1 (fun _ => False) x (by rw [rng_len]; exact h2) (fun _ z => z.elim) (fun _ _ z => z.elim) (by rw [rng_len]; exact Walk.rng) ?_⟩
      intro i H2 x H3 hi g y B' b0 c' hd
      obtain ⟨rfl, rfl⟩ := y
      rw [rng_len] at hi
      exact ⟨_, rng_get hi, .refl, .int _⟩
    · rename_i e
      exact absurd e (by simp)
    · exact w.elim
theorem d_irng2 {b : Expr} {fb : Rho → T PyData} (hs : noStar a = true) (hs2 : noStar b = true) (hg : Gl X "range") (hm : X.mg "range" = none) (ha : PE X a (RdR fa)) (hb : PE X b (RdR fb)) :
    PI X tg (.Call (.Name "range" p) [a, b] [] pos) (RdI (fun ρ => ((fa ρ).bind fun x => ((fb ρ).bind fun y => (T.ret []).bind fun ys => .ret (y :: ys)).bind fun xs => .ret (x :: xs)).bind rngOp) fun _ => true) :=
  (pi_range2 hg hm (pa_cons ha (pa_cons hb pa_nil (star1 hs2)) (star1 hs)) (by rw [star1 hs, star1 hs2]; rfl) (star1 hs2)).imp fun σ H R ⟨S, B, b, ρ, c, er, w⟩ => by
    dsimp only at w
    rw [T.bind_assoc] at w
    refine RdR.thn c er w fun d b1 v H1 x h c1 er1 w => ?_
    rw [T.bind_assoc, T.bind_assoc] at w
    refine RdR.thn c1 er1 w fun d2 b2 v2 H2 x2 h2 c2 er2 w => ?_
    have w : (rngOp [d, d2]).wp b2 _ := w
    unfold rngOp at w
    split at w
    · rename_i e
      exact absurd e (by simp)
    · rename_i n m e
      cases e
      obtain rfl := h.int
      obtain rfl := h2.int
      obtain ⟨h1, w⟩ := wp_chk w
      unfold bnd at h1
      simp only [Bool.and_eq_true, decide_eq_true_eq] at h1
      have hz := small_le h1.2
      refine ⟨n, m, rfl, by omega, w (Itr n (m - n).toNat) H2 (fun _ => False) (x.trans x2) (by rw [rng_len]; exact hz) (fun _ z => z.elim) (fun _ _ z => z.elim) (by rw [rng_len]; exact Walk.rng) ?_⟩
      intro i H2 x H3 hi g y B' b0 c' hd
      obtain ⟨rfl, rfl⟩ := y
      rw [rng_len] at hi
      exact ⟨_, rng_get hi, .refl, .int _⟩
    · exact w.elim
theorem d_ienum (hs : noStar a = true) (hg : Gl X "enumerate") (hm : X.mg "enumerate" = none) (ha : PA X [a] (RdAP fas pl)) :
    PI X (.Tuple elts kk tpos) (.Call (.Name "enumerate" p) [a] [] pos) (RdI (fun ρ => (fas ρ).bind enumOp) pl) :=
  (pi_enumS hg hm ha (star1 hs)).imp fun σ H R ⟨S, B, b, ρ, c, er, w⟩ => ⟨S, B, b, ρ, c, er, T.wp_mono (fun ds b1 w vs H1 x h hp => by
    have c1 := c.ext x
    have key : ∀ (d : PyData) (v : V) (ds : List PyData), itOp d = .ret ds → vs = [v] → DnT S B H1 v d → (pl ρ = true → Dn B H1 v d) → (∀ (J : It) (H2 : Hp) (Sup : Ads), Ext S b b1 H H2 → (enumFrom 0 ds).length ≤ 16777216 →
        (∀ a, Sup a → ¬ S a ∧ H2 a ≠ none) → (pl ρ = true → ∀ a, Sup a → ¬ B a) → Walk J (enumFrom 0 ds).length (fun H3 => ∀ a, Sup a → H3 a = H2 a) J.yld →
        (∀ (i : Nat) (H3 : Hp) (x : V) (H4 : Hp), i < (enumFrom 0 ds).length → (∀ a, Sup a → H3 a = H2 a) → J.yld i H3 x H4 → ∀ (B' : Ads) (b0 : Nat), Ctx S B' H3 → (∀ v d, Dn B H2 v d → Dn B' H3 v d) → ∃ d, (enumFrom 0 ds)[i]? = some d ∧ Ext S b0 b0 H3 H4 ∧ Dn B' H4 x d) → R J H2) →
        ∃ k xs, vs = [Sk.val k] ∧ k.rd X.K H1 xs ∧ R (ItE X.K k) H1 := by
      intro d v ds0 e ev hv hvp q
      obtain ⟨k, xs, ds, ev2, e2, l, z, r1, r2, f1, f2, wk⟩ := src_of (ds := []) (m := b1) (P := fun ds _ => ds = ds0) c1 hv (by rw [e]; exact rfl)
      subst e2 ev ev2
      refine ⟨k, xs, rfl, r1 _, q (ItE X.K k) H1 (fun a => a ∈ k.fp) x (by rw [enum_len]; exact z) f1 (fun z => f2 (hvp z)) ?_ ?_⟩
      · rw [enum_len]
        refine ⟨fun i H2 hi g => ?_, fun H2 g => ⟨xs, r2 _ H2 g, l.length⟩, fun _ _ _ _ _ _ y => y⟩
        have hi : i < xs.length := by rw [l.length]; exact hi
        exact ⟨xs, xs[i], r2 _ H2 g, by simp [hi]⟩
      · intro i H2 x H3 hi g ⟨T, o, y, e1, hT, ho, e3, hx⟩ B' b0 c' hd
        subst e1 e3
        obtain ⟨d, h1, h2⟩ := l.getV (hx xs (r2 _ H2 g))
        have h3 := enum_get 0 ds i d h1
        rw [Nat.zero_add] at h3
        exact ⟨_, h3, .alloc hT, (Res.tup (fr := false) (b := b0) (b1 := b0) c' .refl hT ho (by show 2 ≤ 16777216; decide) (.cons (.int _) (.cons (hd _ _ h2) .nil))).1⟩
    unfold enumOp at w
    split at w
    · cases h with
      | cons h1 h2 =>
        cases h2
        exact key _ _ _ rfl rfl h1 (fun z => by cases hp z with | cons a _ => exact a) w
    · cases h with
      | cons h1 h2 =>
        cases h2
        exact key _ _ _ rfl rfl h1 (fun z => by cases hp z with | cons a _ => exact a) w
    · exact w.elim) (T.wp_bind.mp w)⟩
theorem d_izip {b : Expr} (hs : noStar a = true) (hs2 : noStar b = true) (hg : Gl X "zip") (hm : X.mg "zip" = none) (ha : PA X [a, b] (RdAP fas pl)) :
    PI X (.Tuple elts kk tpos) (.Call (.Name "zip" p) [a, b] [] pos) (RdI (fun ρ => (fas ρ).bind zipOp) pl) :=
  (pi_zipS hg hm ha (star1 hs) (star_plain fun e q => by rw [show e = b by simpa using q]; exact hs2)).imp fun σ H R ⟨S, B, b, ρ, c, er, w⟩ => ⟨S, B, b, ρ, c, er, T.wp_mono (fun ds b1 w vs H1 x h hp => by
    have c1 := c.ext x
    have key : ∀ (d d' : PyData) (v v' : V) (ds ds' : List PyData), itOp d = .ret ds → itOp d' = .ret ds' → vs = [v, v'] → DnT S B H1 v d → DnT S B H1 v' d' → (pl ρ = true → Dn B H1 v d) → (pl ρ = true → Dn B H1 v' d') → (∀ (J : It) (H2 : Hp) (Sup : Ads), Ext S b b1 H H2 → (List.zipWith (fun x y => PyData.tuple [x, y]) ds ds').length ≤ 16777216 →
        (∀ a, Sup a → ¬ S a ∧ H2 a ≠ none) → (pl ρ = true → ∀ a, Sup a → ¬ B a) → Walk J (List.zipWith (fun x y => PyData.tuple [x, y]) ds ds').length (fun H3 => ∀ a, Sup a → H3 a = H2 a) J.yld →
        (∀ (i : Nat) (H3 : Hp) (x : V) (H4 : Hp), i < (List.zipWith (fun x y => PyData.tuple [x, y]) ds ds').length → (∀ a, Sup a → H3 a = H2 a) → J.yld i H3 x H4 → ∀ (B' : Ads) (b0 : Nat), Ctx S B' H3 → (∀ v d, Dn B H2 v d → Dn B' H3 v d) → ∃ d, (List.zipWith (fun x y => PyData.tuple [x, y]) ds ds')[i]? = some d ∧ Ext S b0 b0 H3 H4 ∧ Dn B' H4 x d) → R J H2) →
        ∃ k1 k2 xs ys, vs = [Sk.val k1, Sk.val k2] ∧ k1.rd X.K H1 xs ∧ k2.rd X.K H1 ys ∧ R (ItZ X.K k1 k2) H1 := by
      intro d d' v v' ds0 ds0' e e' ev hv hv' hvp hvp' q
      obtain ⟨k, xs, ds, ev2, e2, l, z, r1, r2, f1, f2, wk⟩ := src_of (ds := []) (m := b1) (P := fun ds _ => ds = ds0) c1 hv (by rw [e]; exact rfl)
      obtain ⟨k', ys, ds', ev2', e2', l', z', r1', r2', f1', f2', wk'⟩ := src_of (ds := []) (m := b1) (P := fun ds _ => ds = ds0') c1 hv' (by rw [e']; exact rfl)
      subst e2 e2' ev ev2 ev2'
      have hl : (List.zipWith (fun x y => PyData.tuple [x, y]) ds ds').length = min xs.length ys.length := by rw [List.length_zipWith, l.length, l'.length]
      have g1 : ∀ {H2 : Hp}, (∀ a, (a ∈ k.fp ∨ a ∈ k'.fp) → H2 a = H1 a) → k.rd X.K H2 xs := fun g => r2 _ _ fun a q => g a (.inl q)
      have g2 : ∀ {H2 : Hp}, (∀ a, (a ∈ k.fp ∨ a ∈ k'.fp) → H2 a = H1 a) → k'.rd X.K H2 ys := fun g => r2' _ _ fun a q => g a (.inr q)
      refine ⟨k, k', xs, ys, rfl, r1 _, r1' _, q (ItZ X.K k k') H1 (fun a => a ∈ k.fp ∨ a ∈ k'.fp) x (by rw [hl, l.length]; omega) (fun a q => q.elim (f1 a) (f1' a)) (fun z a q => q.elim (f2 (hvp z) a) (f2' (hvp' z) a)) ?_ ?_⟩
      · rw [hl]
        refine ⟨fun i H2 hi g => ?_, fun H2 g => ⟨xs, ys, g1 g, g2 g, by omega, by omega, by omega⟩, fun _ _ _ _ _ _ y => y⟩
        exact ⟨xs, ys, xs[i]'(by omega), ys[i]'(by omega), g1 g, g2 g, by simp [show i < xs.length by omega], by simp [show i < ys.length by omega]⟩
      · intro i H2 x H3 hi g ⟨T, o, y, y', e1, hT, ho, e3, hx, hx'⟩ B' b0 c' hd
        subst e1 e3
        obtain ⟨d, h1, h2⟩ := l.getV (hx xs (g1 g))
        obtain ⟨d', h1', h2'⟩ := l'.getV (hx' ys (g2 g))
        exact ⟨.tuple [d, d'], by rw [List.getElem?_zipWith, h1, h1'], .alloc hT, (Res.tup (fr := false) (b := b0) (b1 := b0) c' .refl hT ho (by show 2 ≤ 16777216; decide) (.cons (hd _ _ h2) (.cons (hd _ _ h2') .nil))).1⟩
    unfold zipOp at w
    split at w
    · cases h with
      | cons h1 h2 =>
        cases h2 with
        | cons h2 h3 =>
          cases h3
          exact key _ _ _ _ _ _ rfl rfl rfl h1 h2 (fun z => by cases hp z with | cons a _ => exact a) (fun z => by cases hp z with | cons _ r => cases r with | cons a _ => exact a) w
    · cases h with
      | cons h1 h2 =>
        cases h2 with
        | cons h2 h3 =>
          cases h3
          exact key _ _ _ _ _ _ rfl rfl rfl h1 h2 (fun z => by cases hp z with | cons a _ => exact a) (fun z => by cases hp z with | cons _ r => cases r with | cons a _ => exact a) w
    · exact w.elim) (T.wp_bind.mp w)⟩
end

/-! ### targets -/
theorem ER.setVa {S B : Ads} {b : Nat} {σ : L2.St} {H : Hp} {ρ : Rho} {v : V} {d : PyData} (er : ER S B b σ H ρ) (h : Dn B H v d) (i : Nat) : ER S B b (σ.set i (some v)) H (ρ.set i (.va d)) := by
  have oth : ∀ j, j ≠ i → (σ.set i (some v))[j]? = σ[j]? ∧ (ρ.set i (.va d))[j]? = ρ[j]? := fun j hj => ⟨List.getElem?_set_ne (Ne.symm hj), List.getElem?_set_ne (Ne.symm hj)⟩
  have own : ∀ s, (ρ.set i (.va d))[i]? = some s → s = .va d ∧ (σ.set i (some v))[i]? = some (some v) := fun s e => by
    by_cases hi : i < ρ.length
    · rw [List.getElem?_set_self hi] at e
      exact ⟨(Option.some.inj e).symm, List.getElem?_set_self (by rw [er.len]; exact hi)⟩
    · rw [List.getElem?_eq_none (by rw [List.length_set]; omega)] at e
      cases e
  refine ⟨by rw [List.length_set, List.length_set]; exact er.len, fun j e h1 => ?_, fun j e h1 => ?_, fun j h1 => ?_, fun j k a e e' hjk h1 h2 h3 => ?_⟩
  · by_cases hj : j = i
    · subst hj
      obtain ⟨q, r⟩ := own _ h1
      cases q
      exact ⟨v, r, h⟩
    · rw [(oth j hj).2] at h1
      obtain ⟨u, q, r⟩ := er.va j e h1
      exact ⟨u, by rw [(oth j hj).1]; exact q, r⟩
  · by_cases hj : j = i
    · subst hj
      cases (own _ h1).1
    · rw [(oth j hj).2] at h1
      obtain ⟨u, q, r⟩ := er.ow j e h1
      exact ⟨u, by rw [(oth j hj).1]; exact q, r⟩
  · by_cases hj : j = i
    · subst hj
      cases (own _ h1).1
    · rw [(oth j hj).2] at h1
      obtain ⟨u, q, r⟩ := er.st j h1
      exact ⟨u, by rw [(oth j hj).1]; exact q, r⟩
  · have hj : j ≠ i := fun z => by subst z; cases (own _ h1).1
    have hk : k ≠ i := fun z => by subst z; cases (own _ h2).1
    rw [(oth j hj).2] at h1
    rw [(oth k hk).2] at h2
    rw [(oth j hj).1] at h3
    rw [(oth k hk).1]
    exact er.dis j k a e e' hjk h1 h2 h3
/-- what a target leaves -/
structure TgR (S B : Ads) (b : Nat) (H : Hp) (tg : Tg) (σ σ' : L2.St) (ρ' : Rho) : Prop where
  er : ER S B b σ' H ρ'
  len : σ'.length = σ.length
  oth : ∀ vs, tgIn vs tg = true → ∀ i, i ∉ vs → σ'[i]? = σ[i]?
def RdG (tg : Tg) : TG := fun v σ H Q => ∃ S B b ρ d, Ctx S B H ∧ ER S B b σ H ρ ∧ Dn B H v d ∧ (asgT tg d ρ).wp b fun ρ' b' => ∀ σ', TgR S B b' H tg σ σ' ρ' → (∀ (i : Nat) (d : PyData), ρ'[i]? = some (Sl.ow d) → ρ[i]? = some (Sl.ow d) ∧ σ'[i]? = σ[i]?) → Q σ' H
def RdGs (tg : Tg) : TGs := fun vs σ H Q => ∃ S B b ρ ds, Ctx S B H ∧ ER S B b σ H ρ ∧ DnL B H vs ds ∧ (asgT.asgL tg ds ρ).wp b fun ρ' b' => ∀ σ', TgR S B b' H tg σ σ' ρ' → (∀ (i : Nat) (d : PyData), ρ'[i]? = some (Sl.ow d) → ρ[i]? = some (Sl.ow d) ∧ σ'[i]? = σ[i]?) → Q σ' H
theorem _root_.L2.PGs.imp {X : Cx} {e : List Expr} {t t' : TGs} (h : PGs X e t) (i : ∀ v σ H Q, t' v σ H Q → t v σ H Q) : PGs X e t' := ⟨fun pins s σ H v u Q I r q => h.run pins s σ H v u Q I r (i v σ H Q q)⟩
theorem assign1 {e : Expr} {es : List Expr} {env : Env} (h : noStar e = true) : assignEach (e :: es) env = (false, assign e env) :: assignEach es env := by
  cases e <;> first | rfl | exact nomatch (show false = true from h)
theorem mTgs_star {N : List Str} {sc : Scope} : ∀ {t : Tg} {es : List Expr}, mTg.mTgs N sc t es = true → ∀ e ∈ es, noStar e = true
  | .nil, es, h, e, he => by
    cases es with
    | nil => exact absurd he (by simp)
    | cons x r => exact nomatch (show false = true from h)
  | .cons a b, es, h, e, he => by
    cases es with
    | nil => exact absurd he (by simp)
    | cons x r =>
      have h : (noStar x && mTg N sc a x && mTg.mTgs N sc b r) = true := h
      simp only [Bool.and_eq_true] at h
      rcases List.mem_cons.mp he with z | z
      · rw [z]; exact h.1.1
      · exact mTgs_star h.2 e z
  | .v i, es, h, e, he => by unfold mTg.mTgs at h; exact nomatch (show false = true from h)
  | .tup i, es, h, e, he => by unfold mTg.mTgs at h; exact nomatch (show false = true from h)
theorem assign_plain {env : Env} : ∀ {es : List Expr}, (∀ e ∈ es, noStar e = true) → (assignEach es env).length = es.length ∧ (assignEach es env).findIdx? (·.1) = none
  | [], _ => ⟨rfl, rfl⟩
  | e :: es, h => by
    obtain ⟨h1, h2⟩ := assign_plain (env := env) fun e q => h e (List.mem_cons_of_mem _ q)
    rw [assign1 (h e List.mem_cons_self)]
    refine ⟨by rw [List.length_cons, List.length_cons, h1], ?_⟩
    rw [List.findIdx?_cons]
    simp [h2]
section
variable {X : Cx} {N : List Str} {sc : Scope}
theorem asgL_len : ∀ {t : Tg} {ds : List PyData} {es : List Expr} {ρ : Rho} {b : Nat} {P : Rho → Nat → Prop}, mTg.mTgs N sc t es = true → (asgT.asgL t ds ρ).wp b P → ds.length = es.length
  | .nil, ds, es, ρ, b, P, h, w => by
    cases es with
    | cons x r => exact nomatch (show false = true from h)
    | nil =>
      cases ds with
      | nil => rfl
      | cons d r => exact w.elim
  | .cons a t, ds, es, ρ, b, P, h, w => by
    cases es with
    | nil => exact nomatch (show false = true from h)
    | cons x r =>
      have h : (noStar x && mTg N sc a x && mTg.mTgs N sc t r) = true := h
      simp only [Bool.and_eq_true] at h
      cases ds with
      | nil => exact w.elim
      | cons d ds =>
        have w := T.wp_bind.mp w
        have e : ds.length = r.length := by
          by_cases e : ds.length = r.length
          · exact e
          · exact (no_wp (fun ρ' b' w' => e (asgL_len h.2 w')) w).elim
        rw [List.length_cons, List.length_cons, e]
  | .v i, ds, es, ρ, b, P, h, w => by unfold mTg.mTgs at h; exact nomatch (show false = true from h)
  | .tup i, ds, es, ρ, b, P, h, w => by unfold mTg.mTgs at h; exact nomatch (show false = true from h)
mutual
theorem d_tg (hN : X.N = N) (nd : N.Nodup) (hc : X.calm = true) (hx : ∀ x, sc.names.lookup x = some .local ∨ sc.names.lookup x = some .cell → Loc X.env.scope x ∧ (X.fn x = true ∨ X.env.scope.names.lookup x = some .local)) :
    ∀ (t : Tg) (e : Expr), mTg N sc t e = true → PG X e (RdG t)
  | .v i, e, h => by
    cases e with
    | Name x pos =>
      have h : locB N sc x i = true := h
      unfold locB at h
      simp only [Bool.and_eq_true, Bool.or_eq_true, beq_iff_eq] at h
      obtain ⟨h1, h2⟩ := hx x h.2
      refine (pg_name (by rw [hN]; exact nd) (by rw [hN]; exact h.1) h1 h2).imp fun v σ H Q ⟨S, B, b, ρ, d, c, er, hd, w⟩ => w _ ⟨er.setVa hd i, by rw [List.length_set], fun vs q j hj => ?_⟩ fun j d' q => ?_
      · have q : vs.contains i = true := q
        exact List.getElem?_set_ne fun z => hj (by rw [← z]; simpa using q)
      · by_cases z : i = j
        · subst z
          by_cases hi : i < ρ.length
          · rw [List.getElem?_set_self hi] at q
            cases q
          · rw [List.getElem?_eq_none (by rw [List.length_set]; omega)] at q
            cases q
        · rw [List.getElem?_set_ne z] at q
          exact ⟨q, List.getElem?_set_ne z⟩
    | _ => exact nomatch (show false = true from h)
  | .tup t, e, h => by
    cases e with
    | Tuple es k pos =>
      have h : mTg.mTgs N sc t es = true := h
      obtain ⟨h1, h2⟩ := assign_plain (env := X.env) (mTgs_star h)
      refine (pg_tup hc (d_tgs hN nd hc hx t es h) (hn := h1) (hst := h2)).imp fun v σ H Q ⟨S, B, b, ρ, d, c, er, hd, w⟩ => ?_
      cases hd with
      | @tup a1 o1 xs1 ds1 e1 k1 n1 z1 l1 =>
        have w : (asgT.asgL t ds1 ρ).wp b _ := w
        have hl := l1.length
        exact ⟨_, _, rfl, .inl (.inr ⟨_, e1⟩), hl.trans (asgL_len h w), S, B, b, ρ, ds1, c, er, l1, T.wp_mono (fun ρ' b' q σ' tr ho => q σ' ⟨tr.er, tr.len, tr.oth⟩ ho) w⟩
      | _ => exact w.elim
    | _ => exact nomatch (show false = true from h)
  | .nil, e, h => by unfold mTg at h; exact nomatch (show false = true from h)
  | .cons a b, e, h => by unfold mTg at h; exact nomatch (show false = true from h)
theorem d_tgs (hN : X.N = N) (nd : N.Nodup) (hc : X.calm = true) (hx : ∀ x, sc.names.lookup x = some .local ∨ sc.names.lookup x = some .cell → Loc X.env.scope x ∧ (X.fn x = true ∨ X.env.scope.names.lookup x = some .local)) :
    ∀ (t : Tg) (es : List Expr), mTg.mTgs N sc t es = true → PGs X es (RdGs t)
  | .nil, es, h => by
    cases es with
    | nil =>
      refine pgs_nil.imp fun vs σ H Q ⟨S, B, b, ρ, ds, c, er, hd, w⟩ => ?_
      cases hd with
      | nil => exact ⟨rfl, w σ ⟨er, rfl, fun _ _ _ _ => rfl⟩ fun _ _ q => ⟨q, rfl⟩⟩
      | cons _ _ => exact w.elim
    | cons x r => exact nomatch (show false = true from h)
  | .cons a t, es, h => by
    cases es with
    | nil => exact nomatch (show false = true from h)
    | cons x r =>
      have h : (noStar x && mTg N sc a x && mTg.mTgs N sc t r) = true := h
      simp only [Bool.and_eq_true] at h
      refine (pgs_cons (d_tg hN nd hc hx a x h.1.2) (d_tgs hN nd hc hx t r h.2) (by rw [assign1 h.1.1]; rfl)).imp fun vs σ H Q ⟨S, B, b, ρ, ds, c, er, hd, w⟩ => ?_
      cases hd with
      | nil => exact w.elim
      | cons hd hr =>
        refine ⟨_, _, rfl, S, B, b, ρ, _, c, er, hd, T.wp_mono (fun ρ1 b1 w σ1 tr ho => ⟨S, B, b1, ρ1, _, c, tr.er, hr, T.wp_mono (fun ρ2 b2 q σ2 tr2 ho2 => q σ2 ⟨tr2.er, tr2.len.trans tr.len, fun vs z i hi => ?_⟩ fun i d q => ?_) w⟩) (T.wp_bind.mp w)⟩
        · have z : (tgIn vs a && tgIn vs t) = true := z
          rw [Bool.and_eq_true] at z
          exact (tr2.oth vs z.2 i hi).trans (tr.oth vs z.1 i hi)
        · obtain ⟨h1, h2⟩ := ho2 i d q
          obtain ⟨h3, h4⟩ := ho i d h1
          exact ⟨h3, h2.trans h4⟩
  | .v i, es, h => by unfold mTg.mTgs at h; exact nomatch (show false = true from h)
  | .tup i, es, h => by unfold mTg.mTgs at h; exact nomatch (show false = true from h)
end
end
end RG
end

section
set_option Elab.async false
set_option linter.all false
set_option maxRecDepth 100000
set_option maxHeartbeats 4000000
/-! Comprehensions by data. -/
namespace RG
open PySem PySem.Spec PySem.Calls PyProof.Rows L2

theorem wipe_get : ∀ (σ : L2.St) (vs : List Nat) (i : Nat), (wipe σ vs)[i]? = if i ∈ vs then (if i < σ.length then some none else none) else σ[i]?
  | σ, [], i => by simp [wipe]
  | σ, v :: vs, i => by
    unfold wipe
    by_cases hi : i = v
    · subst hi
      rw [if_pos List.mem_cons_self]
      by_cases hl : i < σ.length
      · rw [if_pos hl, List.getElem?_set_self (by rw [wipe_length]; exact hl)]
      · rw [if_neg hl, List.getElem?_eq_none (by rw [List.length_set, wipe_length]; omega)]
    · rw [List.getElem?_set_ne (Ne.symm hi), wipe_get σ vs i]
      by_cases hm : i ∈ vs
      · rw [if_pos hm, if_pos (List.mem_cons_of_mem _ hm)]
      · rw [if_neg hm, if_neg (by simp [hi, hm])]
theorem wipeR_len : ∀ (ρ : Rho) (vs : List Nat), (wipeR ρ vs).length = ρ.length
  | ρ, [] => rfl
  | ρ, v :: vs => by unfold wipeR; rw [List.length_set, wipeR_len ρ vs]
theorem wipeR_get : ∀ (ρ : Rho) (vs : List Nat) (i : Nat), (wipeR ρ vs)[i]? = if i ∈ vs then (if i < ρ.length then some .no else none) else ρ[i]?
  | ρ, [], i => by simp [wipeR]
  | ρ, v :: vs, i => by
    unfold wipeR
    by_cases hi : i = v
    · subst hi
      rw [if_pos List.mem_cons_self]
      by_cases hl : i < ρ.length
      · rw [if_pos hl, List.getElem?_set_self (by rw [wipeR_len]; exact hl)]
      · rw [if_neg hl, List.getElem?_eq_none (by rw [List.length_set, wipeR_len]; omega)]
    · rw [List.getElem?_set_ne (Ne.symm hi), wipeR_get ρ vs i]
      by_cases hm : i ∈ vs
      · rw [if_pos hm, if_pos (List.mem_cons_of_mem _ hm)]
      · rw [if_neg hm, if_neg (by simp [hi, hm])]
theorem wipe_same {σ σ' : L2.St} {vs : List Nat} (hl : σ'.length = σ.length) (h : ∀ i, i ∉ vs → σ'[i]? = σ[i]?) : wipe σ' vs = wipe σ vs := by
  apply List.ext_getElem?
  intro i
  rw [wipe_get, wipe_get, hl]
  by_cases hm : i ∈ vs
  · rw [if_pos hm, if_pos hm]
  · rw [if_neg hm, if_neg hm, h i hm]
theorem wipe_wipe {σ : L2.St} {vs : List Nat} : wipe (wipe σ vs) vs = wipe σ vs := wipe_same (wipe_length σ vs) fun i hi => by rw [wipe_get, if_neg hi]
/-- slots forgotten -/
theorem ER.wipeBoth {S B : Ads} {b : Nat} {σ : L2.St} {H : Hp} {ρ : Rho} (er : ER S B b σ H ρ) (vs : List Nat) : ER S B b (wipe σ vs) H (wipeR ρ vs) := by
  have key : ∀ i s, (wipeR ρ vs)[i]? = some s → s ≠ Sl.no → i ∉ vs ∧ ρ[i]? = some s ∧ (wipe σ vs)[i]? = σ[i]? := fun i s h hs => by
    rw [wipeR_get] at h
    by_cases hm : i ∈ vs
    · rw [if_pos hm] at h
      split at h
      · cases h; exact absurd rfl hs
      · cases h
    · rw [if_neg hm] at h
      exact ⟨hm, h, by rw [wipe_get, if_neg hm]⟩
  refine ⟨by rw [wipe_length, wipeR_len]; exact er.len, fun i d h => ?_, fun i d h => ?_, fun i h => ?_, fun i j a d e hij h1 h2 h3 => ?_⟩
  · obtain ⟨k1, k2, k3⟩ := key i _ h (by simp)
    rw [k3]
    exact er.va i d k2
  · obtain ⟨k1, k2, k3⟩ := key i _ h (by simp)
    rw [k3]
    exact er.ow i d k2
  · obtain ⟨k1, k2, k3⟩ := key i _ h (by simp)
    rw [k3]
    exact er.st i k2
  · obtain ⟨k1, k2, k3⟩ := key i _ h1 (by simp)
    obtain ⟨q1, q2, q3⟩ := key j _ h2 (by simp)
    rw [k3] at h3
    rw [q3]
    exact er.dis i j a d e hij k2 q2 h3
theorem ER.wipeR {S B : Ads} {b : Nat} {σ : L2.St} {H : Hp} {ρ : Rho} (er : ER S B b σ H ρ) (vs : List Nat) : ER S B b σ H (wipeR ρ vs) := by
  have key : ∀ i s, (RG.wipeR ρ vs)[i]? = some s → s ≠ Sl.no → ρ[i]? = some s := fun i s h hs => by
    rw [wipeR_get] at h
    by_cases hm : i ∈ vs
    · rw [if_pos hm] at h
      split at h
      · cases h; exact absurd rfl hs
      · cases h
    · rw [if_neg hm] at h
      exact h
  exact ⟨by rw [wipeR_len]; exact er.len, fun i d h => er.va i d (key i _ h (by simp)), fun i d h => er.ow i d (key i _ h (by simp)), fun i h => er.st i (key i _ h (by simp)),
    fun i j a d e hij h1 h2 h3 => er.dis i j a d e hij (key i _ h1 (by simp)) (key j _ h2 (by simp)) h3⟩
theorem Ext.updD {S : Ads} {b b1 : Nat} {H H1 : Hp} {D : Addr} {o : HO} (x : Ext S b b1 H H1) (hD : H D = none) (nS : ¬ S D) : Ext S b b1 H (upd H1 D o) := by
  refine ⟨fun a u h n => ?_, fun a h => ?_, fun a h => ?_, x.le⟩
  · rw [upd_ne (ne_of_none h hD)]; exact x.keep a u h n
  · by_cases e : a = D
    · subst e; exact absurd hD h
    · rw [upd_ne e]; exact x.dom a h
  · obtain ⟨h0, c, ns, k, p, y, z, w, h1, h2, h3, h4, h5⟩ := x.st a h
    exact ⟨h0, c, ns, k, p, y, z, w, h1, h2, by rw [upd_ne fun e => nS (by rw [← e]; exact h0)]; exact h3, by rw [upd_ne fun e => nS (by rw [← e]; exact h1)]; exact h4, h5⟩
theorem Ctx.nS {S B : Ads} {H : Hp} {p : Addr} (c : Ctx S B H) (hp : H p = none) : ¬ S p := fun z => c.nb hp (c.sb p z)

section
variable {fi : Rho → T (List PyData)} {pl : Rho → Bool} {tg : Tg} {ft : Rho → T Bool} {fe : Rho → T PyData} {fr fr1 : Bool} {vs : List Nat}
def lcF (tg : Tg) (ft : Rho → T Bool) (fe : Rho → T PyData) (vs : List Nat) (ρ : Rho) : PyData → T (Option PyData) :=
  fun d => (asgT tg d (wipeR ρ vs)).bind fun ρ' => (ft ρ').bind fun k => if k then (fe ρ').bind fun y => .ret (some y) else .ret none
theorem lc_rd (htg : tgIn vs tg = true) {σ : L2.St} {H : Hp} {Q : VK} (h : RdE (fun ρ => (fi ρ).bind fun ds => (lcG (lcF tg ft fe vs ρ) ds).bind fun ys => .ret (.list ys)) fr σ H Q) :
    tLc (RdI fi pl) (RdG tg) (RdT ft) (RdE fe fr1) vs σ H Q := by
  obtain ⟨S, B, b, ρ, c, er, w⟩ := h
  refine ⟨S, B, b, ρ, c, er, T.wp_mono (fun ds b1 w J H1 Sup x hz hs _ wk hy D hD => ?_) (T.wp_bind.mp w)⟩
  have c1 := c.ext x
  have er1 := er.ext c x
  have nS : ¬ S D := c1.nS hD
  have w := T.wp_bind.mp w
  have zip : ∀ {H2 : Hp} {b2 : Nat}, Ext S b1 b2 H1 H2 → ∀ v d, Dn B H1 v d → Dn (fun a => B a ∨ a = D) H2 v d := fun {H2 b2} x2 v d h =>
    h.imp fun a o e n => ⟨x2.keep a o e fun z => n (c1.sb a z), fun q => q.elim n fun z => by subst z; rw [hD] at e; cases e⟩
  refine lc_it wk (fun i H2 => ∃ (b2 : Nat) (ys : List PyData) (xs : List V), Ext S b1 b2 H1 H2 ∧ H2 D = some (.lst xs) ∧ DnL (fun a => B a ∨ a = D) H2 xs ys ∧ ys.length ≤ i ∧
    (lcG (lcF tg ft fe vs ρ) (ds.drop i)).wp b2 fun r b' => ∀ v H', Ext S b b' H H' → Res fr B H H' v (.list (ys ++ r)) → Q v H') ?_ ?_ ?_ ?_
  · exact ⟨b1, [], [], .updD .refl hD nS, upd_same, .nil, Nat.le_refl _, by rw [List.drop_zero]; exact w⟩
  · rintro i H2 hi ⟨b2, ys, xs, x2, _⟩ a ha
    obtain ⟨n1, n2⟩ := hs a ha
    cases e : H1 a with
    | none => exact absurd e n2
    | some o => exact x2.keep a o e n1
  · rintro i y H2 H3 hi ⟨b2, ys, xs, x2, eD, l, hle, w⟩ yl
    have G : ∀ a, Sup a → H2 a = H1 a := fun a ha => by
      obtain ⟨n1, n2⟩ := hs a ha
      cases e : H1 a with
      | none => exact absurd e n2
      | some o => exact x2.keep a o e n1
    have c2 : Ctx S (fun a => B a ∨ a = D) H2 := (c1.ext x2).bar (by rw [eD]; simp)
    obtain ⟨d, hd, x3, dn⟩ := hy i H2 y H3 hi G yl (fun a => B a ∨ a = D) b2 c2 (zip x2)
    have c3 := c2.ext x3
    have e2 : ds.drop i = d :: ds.drop (i + 1) := by
      rw [List.drop_eq_getElem_cons hi]
      rw [List.getElem?_eq_getElem hi] at hd
      rw [Option.some.inj hd]
    rw [e2] at w
    unfold lcG at w
    have w := T.wp_bind.mp w
    have er2 : ER S (fun a => B a ∨ a = D) b2 σ H2 ρ := er1.bar c1 x2 hD
    have er3 := (er2.ext c2 x3).wipeBoth vs
    have w := T.wp_bind.mp w
    refine ⟨S, _, b2, wipeR ρ vs, d, c3, er3, dn, T.wp_mono (fun ρ' b3 ⟨l3, w⟩ σ' tr _ => ?_) (T.wp_le w)⟩
    refine ⟨(wipe_same (tr.len.trans rfl) fun j hj => tr.oth vs htg j hj).trans wipe_wipe, ?_⟩
    refine RdT.thn c3 tr.er w fun k b4 H4 x4 c4 er4 w => ?_
    have x24 : Ext S b2 b4 H2 H4 := by
      have := x3.le
      exact ⟨fun a o h n => x4.keep a o (x3.keep a o h n) n, fun a h => x4.dom a (x3.dom a h), fun a h => x4.st a ((x3.st a h).le l3), Nat.le_trans x4.le l3⟩
    have eD4 : H4 D = some (.lst xs) := x24.keep _ _ eD nS
    have l4 : DnL (fun a => B a ∨ a = D) H4 xs ys := l.ext c2 x24
    cases k with
    | false =>
      refine ⟨b4, ys, xs, x2.trans x24, eD4, l4, Nat.le_succ_of_le hle, ?_⟩
      exact T.wp_mono (fun r b' q => q) (T.wp_bind.mp w)
    | true =>
      refine RdE.thn c4 er4 w fun dy b5 v H5 x5 r c5 er5 w => ?_
      have eD5 : H5 D = some (.lst xs) := x5.keep _ _ eD4 nS
      have l5 : DnL (fun a => B a ∨ a = D) H5 xs ys := l4.ext c4 x5
      have hlen := l5.length
      refine ⟨xs, eD5, by rw [line_eq, hlen]; omega, b5, ys ++ [dy], xs ++ [v], ((x2.trans x24).trans x5).updD hD nS, upd_same, ?_, by rw [List.length_append, List.length_singleton]; omega, ?_⟩
      · refine (l5.append (.cons r.1 .nil)).imp fun a o e n => ⟨?_, n⟩
        rw [upd_ne fun z => n (.inr z)]
        exact e
      · refine T.wp_mono (fun r b' q => ?_) (T.wp_bind.mp w)
        rw [List.append_assoc]
        exact q
  · rintro H2 ⟨b2, ys, xs, x2, eD, l, hle, w⟩
    rw [List.drop_length] at w
    have w : ∀ v H', Ext S b b2 H H' → Res fr B H H' v (.list (ys ++ [])) → Q v H' := w
    rw [List.append_nil] at w
    refine w _ _ (x.trans x2) ⟨.lst eD (c1.nb hD) (Nat.le_trans hle hz) (l.unbar fun a => .inl), fun _ es e => ?_⟩
    cases e
    exact ⟨D, xs, rfl, x.free hD, eD, l⟩
variable {X : Cx} {elt tgE iter : Expr} {ifs : List Expr} {scope : Scope} {own : List (Str × Nat)} {pos : Pos}
theorem d_comp (hc : X.calm = true) (hN : X.N.Nodup) (htg : tgIn (own.map (·.2)) tg = true) (hi : PI X tgE iter (RdI fi pl)) (ok : BlkOk X.N X.env.scope scope own)
    (hg : ∀ (s : Shared) (H : Hp) (C : Addr) (cl : List (Str × Addr)) (fp : List Addr), PG (X.blk s H scope (compEnvC scope cl C X.env) fp) tgE (RdG tg))
    (ht : ∀ (s : Shared) (H : Hp) (C : Addr) (cl : List (Str × Addr)) (fp : List Addr), PTs (X.blk s H scope (compEnvC scope cl C X.env) fp) ifs (RdT ft))
    (he : ∀ (s : Shared) (H : Hp) (C : Addr) (cl : List (Str × Addr)) (fp : List Addr), PE (X.blk s H scope (compEnvC scope cl C X.env) fp) elt (RdE fe fr1)) (hs : ∀ x, foldedSetIterable iter X.env x = pure x) :
    PE X (.ListComp elt [⟨tgE, iter, ifs, 0⟩] scope pos) (RdE (fun ρ => (fi ρ).bind fun ds => (lcG (lcF tg ft fe (own.map (·.2)) ρ) ds).bind fun ys => .ret (.list ys)) fr) :=
  (pe_lc hc hN hi ok hg ht he hs).imp fun σ H Q h => lc_rd htg h
theorem _root_.L2.PTs.imp {X : Cx} {e : List Expr} {t t' : TT} (h : PTs X e t) (i : ∀ σ H Q, t' σ H Q → t σ H Q) : PTs X e t' := ⟨fun pins s σ H Q I q => h.run pins s σ H Q I (i σ H Q q)⟩
theorem d_tyes : PTs X [] (RdT fun _ => .ret true) := pts_nil.imp fun σ H Q ⟨S, B, b, ρ, c, er, w⟩ => w H .refl
end
end RG
end

section
set_option Elab.async false
set_option linter.all false
set_option maxRecDepth 100000
set_option maxHeartbeats 4000000
/-! Every expression, by data. -/
namespace RG
open PySem PySem.Spec PySem.Calls PyProof.Rows L2

/-- where a tree is run -/
structure Good (tb : Tb) (N : List Str) (Φ : Calls) (n : Nat) (X : Cx) : Prop where
  hN : X.N = N
  nd : N.Nodup
  calm : X.calm = true
  room : Room n X.A
  gd : X.A.guards = some []
  gs : ∀ (x : Str) (k : Int), tb.gs.contains (x, k) = true → ∃ u, X.mg x = some u ∧ RelV (.int k) u
  bs : ∀ (x : Str), tb.bs.contains x = true → X.mg x = none
  fs : ∀ (f : Str), tb.fs.contains f = true → ∃ a fd ps, X.mg f = some (.ref a) ∧ PySem.W.keepIn X.K (.ref a) = true ∧ Binds X.K fd ps [] ∧ FnG X.prog X.w X.K X.mg X.base n a fd ps (Φ f) ∧ ∀ ss, ss.length ≠ ps.length → Φ f ss = .fail
section
variable {tb : Tb} {N : List Str} {Φ : Calls} {n : Nat} {X : Cx} {sc : Scope}
theorem Good.blk (g : Good tb N Φ n X) (s : Shared) (H : Hp) (scope : Scope) (ce : Env) (fp : List Addr) : Good tb N Φ n (X.blk s H scope ce fp) :=
  ⟨g.hN, g.nd, g.calm, g.room, g.gd, g.gs, g.bs, g.fs⟩
theorem Good.un (g : Good tb N Φ n X) : X.A.units + 70 < cLine := by have := g.room.un; omega
theorem Good.un64 (g : Good tb N Φ n X) : X.A.units + 64 < cLine := by have := g.room.un; omega
theorem visB_of {x : Str} {i : Nat} (g : Good tb N Φ n X) (hs : X.env.scope = sc) (h : visB N sc x i = true) : X.N[i]? = some x ∧ Vis X.env.scope x ∧ (x == ("__debug__" : Str)) = false ∧ (x == ("__classdict__" : Str)) = false := by
  unfold visB at h
  simp only [Bool.and_eq_true, Bool.or_eq_true, beq_iff_eq, bne_iff_ne, ne_eq] at h
  obtain ⟨⟨⟨h1, h2⟩, h3⟩, h4⟩ := h
  refine ⟨by rw [g.hN]; exact h1, ?_, beq_false_of_ne h3, beq_false_of_ne h4⟩
  rw [hs]
  rcases h2 with (h2 | h2) | h2
  · exact .inl h2
  · exact .inr (.inl h2)
  · exact .inr (.inr h2)
theorem glB_of {x : Str} (hs : X.env.scope = sc) (h : glB sc x = true) : Gl X x ∧ (x == ("__debug__" : Str)) = false ∧ x ≠ "__name__" := by
  unfold glB at h
  simp only [Bool.and_eq_true, beq_iff_eq, bne_iff_ne, ne_eq] at h
  refine ⟨?_, beq_false_of_ne h.1.2, h.2⟩
  show X.env.scope.names.lookup x = _
  rw [hs]
  exact h.1.1
theorem mA_star : ∀ {as : E} {es : List Expr}, mA tb N sc as es = true → ∀ e ∈ es, noStar e = true
  | .cons a as, es, h, e, he => by
    cases es with
    | nil => exact absurd he (by simp)
    | cons x r =>
      have h : (noStar x && mE tb N sc a x && mA tb N sc as r) = true := by unfold mA at h; exact h
      simp only [Bool.and_eq_true] at h
      rcases List.mem_cons.mp he with z | z
      · rw [z]; exact h.1.1
      · exact mA_star h.2 e z
  | .nil, es, h, e, he => by
    cases es with
    | nil => exact absurd he (by simp)
    | cons x r => unfold mA at h; exact nomatch h
  | .v _, es, h, e, he => by unfold mA at h; exact nomatch h
  | .int _, es, h, e, he => by unfold mA at h; exact nomatch h
  | .bl _, es, h, e, he => by unfold mA at h; exact nomatch h
  | .non, es, h, e, he => by unfold mA at h; exact nomatch h
  | .str _, es, h, e, he => by unfold mA at h; exact nomatch h
  | .glob _ _, es, h, e, he => by unfold mA at h; exact nomatch h
  | .neg _, es, h, e, he => by unfold mA at h; exact nomatch h
  | .vnot _, es, h, e, he => by unfold mA at h; exact nomatch h
  | .bin .., es, h, e, he => by unfold mA at h; exact nomatch h
  | .cmp .., es, h, e, he => by unfold mA at h; exact nomatch h
  | .isN _, es, h, e, he => by unfold mA at h; exact nomatch h
  | .notN _, es, h, e, he => by unfold mA at h; exact nomatch h
  | .chn .., es, h, e, he => by unfold mA at h; exact nomatch h
  | .vbo .., es, h, e, he => by unfold mA at h; exact nomatch h
  | .ife .., es, h, e, he => by unfold mA at h; exact nomatch h
  | .tup _, es, h, e, he => by unfold mA at h; exact nomatch h
  | .lst _, es, h, e, he => by unfold mA at h; exact nomatch h
  | .sub .., es, h, e, he => by unfold mA at h; exact nomatch h
  | .sli .., es, h, e, he => by unfold mA at h; exact nomatch h
  | .no, es, h, e, he => by unfold mA at h; exact nomatch h
  | .rev _, es, h, e, he => by unfold mA at h; exact nomatch h
  | .isi .., es, h, e, he => by unfold mA at h; exact nomatch h
  | .fn .., es, h, e, he => by unfold mA at h; exact nomatch h
  | .met .., es, h, e, he => by unfold mA at h; exact nomatch h
  | .call .., es, h, e, he => by unfold mA at h; exact nomatch h
  | .comp .., es, h, e, he => by unfold mA at h; exact nomatch h
  | .tbo .., es, h, e, he => by unfold mA at h; exact nomatch h
  | .tnot .., es, h, e, he => by unfold mA at h; exact nomatch h
  | .tval .., es, h, e, he => by unfold mA at h; exact nomatch h
  | .tcmp .., es, h, e, he => by unfold mA at h; exact nomatch h
  | .tchn .., es, h, e, he => by unfold mA at h; exact nomatch h
  | .tyes, es, h, e, he => by unfold mA at h; exact nomatch h
  | .tisN .., es, h, e, he => by unfold mA at h; exact nomatch h
  | .tnotN .., es, h, e, he => by unfold mA at h; exact nomatch h
  | .ival .., es, h, e, he => by unfold mA at h; exact nomatch h
  | .irng .., es, h, e, he => by unfold mA at h; exact nomatch h
  | .ienum .., es, h, e, he => by unfold mA at h; exact nomatch h
  | .izip .., es, h, e, he => by unfold mA at h; exact nomatch h
theorem read_of {a : E} {e : Expr} (g : Good tb N Φ n X) (hs : X.env.scope = sc) (hm : mE tb N sc a e = true) (h : PE X e (RdE (ev Φ a) (isFr a))) : PE X e (RdP (fun ρ => rdOf a (ev Φ a ρ) ρ) (fun ρ => notOw ρ a)) := by
  cases a with
  | v i =>
    cases e with
    | Name x pos =>
      obtain ⟨h1, h2, h3, h4⟩ := visB_of g hs (show visB N sc x i = true from hm)
      exact d_varP h1 h2 h3 h4
    | _ => exact nomatch (show false = true from hm)
  | _ => exact RdP.of h
theorem slot_of {a : E} {e : Expr} (g : Good tb N Φ n X) (hs : X.env.scope = sc) (hm : mE tb N sc a e = true) (h : PE X e (RdE (ev Φ a) (isFr a))) : PE X e (RdS (fun ρ => slOf a (ev Φ a ρ) ρ) (isFr a)) := by
  cases a with
  | v i =>
    cases e with
    | Name x pos =>
      obtain ⟨h1, h2, h3, h4⟩ := visB_of g hs (show visB N sc x i = true from hm)
      exact d_varS h1 h2 h3 h4
    | _ => exact nomatch (show false = true from hm)
  | _ => exact RdS.of h
theorem readR_of {a : E} {e : Expr} (g : Good tb N Φ n X) (hs : X.env.scope = sc) (hm : mE tb N sc a e = true) (h : PE X e (RdE (ev Φ a) (isFr a))) : PE X e (RdR (fun ρ => rdOf a (ev Φ a ρ) ρ)) := RdP.rd (read_of g hs hm h)
theorem blk_vis {X : Cx} {scope : Scope} (s : Shared) (H : Hp) (C : Addr) (cl : List (Str × Addr)) (fp : List Addr) :
    ∀ x, scope.names.lookup x = some .local ∨ scope.names.lookup x = some .cell → Loc (X.blk s H scope (compEnvC scope cl C X.env) fp).env.scope x ∧ ((X.blk s H scope (compEnvC scope cl C X.env) fp).fn x = true ∨ (X.blk s H scope (compEnvC scope cl C X.env) fp).env.scope.names.lookup x = some .local) := by
  intro x h
  rcases h with h | h
  · have q : (relS scope X.env.scope).names.lookup x = some .local := lookup_relS_keep (by decide) h
    exact ⟨.inl q, .inr q⟩
  · have q : (relS scope X.env.scope).names.lookup x = some .cell := lookup_relS_keep (by decide) h
    refine ⟨.inr q, .inl ?_⟩
    show (scope.names.lookup x == some .cell) = true
    rw [h]
    rfl
end
end RG
end

section
set_option Elab.async false
set_option linter.all false
set_option maxRecDepth 100000
set_option maxHeartbeats 4000000
/-! Every expression, by data: the theorem. -/
namespace RG
open PySem PySem.Spec PySem.Calls PyProof.Rows L2

structure Snd (tb : Tb) (N : List Str) (Φ : Calls) (n : Nat) (a : E) : Prop where
  fe : ∀ (X : Cx) (sc : Scope) (x : Expr), Good tb N Φ n X → X.env.scope = sc → mE tb N sc a x = true → PE X x (RdE (ev Φ a) (isFr a))
  ft : ∀ (X : Cx) (sc : Scope) (x : Expr), Good tb N Φ n X → X.env.scope = sc → mT tb N sc a x = true → PT X x (RdT (evT Φ a))
  fb : ∀ (X : Cx) (sc : Scope) (xs : List Expr) (op : BoolOp) (pos : Pos), Good tb N Φ n X → X.env.scope = sc → mB tb N sc a xs = true → PW X (.BoolOp op xs pos) (RdT (evB Φ op a))
  fv : ∀ (X : Cx) (sc : Scope) (xs : List Expr) (op : BoolOp) (pos : Pos), Good tb N Φ n X → X.env.scope = sc → mV tb N sc a xs = true → PE X (.BoolOp op xs pos) (RdE (evV Φ op a) false)
  fa : ∀ (X : Cx) (sc : Scope) (xs : List Expr), Good tb N Φ n X → X.env.scope = sc → mA tb N sc a xs = true → PA X xs (RdAP (evA Φ a) fun ρ => notOwA ρ a)
  fc : ∀ (X : Cx) (sc : Scope) (xs : List Expr), Good tb N Φ n X → X.env.scope = sc → mA tb N sc a xs = true → PA X xs (RdC (evC Φ a) (frs a))
  fo : ∀ (X : Cx) (sc : Scope) (x : Option Expr), Good tb N Φ n X → X.env.scope = sc → mO tb N sc a x = true → PO X x (RdO (evO Φ a))
  fi : ∀ (X : Cx) (sc : Scope) (tg x : Expr), Good tb N Φ n X → X.env.scope = sc → mI tb N sc a tg x = true → PI X tg x (RdI (evI Φ a) fun ρ => plainI ρ a)
  f1 : ∀ (X : Cx) (sc : Scope) (x : Expr), Good tb N Φ n X → X.env.scope = sc → mA tb N sc a [x] = true → ∃ a', a = .cons a' .nil ∧ PE X x (RdR (fun ρ => rdOf a' (ev Φ a' ρ) ρ))
  f2 : ∀ (X : Cx) (sc : Scope) (x y : Expr), Good tb N Φ n X → X.env.scope = sc → mA tb N sc a [x, y] = true → ∃ a' b', a = .cons a' (.cons b' .nil) ∧ PE X x (RdR (fun ρ => rdOf a' (ev Φ a' ρ) ρ)) ∧ PE X y (RdR (fun ρ => rdOf b' (ev Φ b' ρ) ρ))
section
variable {tb : Tb} {N : List Str} {Φ : Calls} {n : Nat}
theorem plain_true {a : Expr} {env : Env} (h : plainTest a = true) : ∀ whole, isTrue a env whole = (do let v ← whole; standAt a.pos; holding [v] (truthy v)) := by
  intro whole
  cases a <;> first | rfl | (rename_i op _ _; cases op <;> first | rfl | exact nomatch (show false = true from h)) | exact nomatch (show false = true from h)
theorem plain_ix {b : Expr} (h : noSlice b = true) : PlainIx b := by
  intro o i
  cases b <;> first | rfl | exact nomatch (show false = true from h)
theorem mA_nil {sc : Scope} {as : E} (h : mA tb N sc as [] = true) : as = .nil := by
  cases as <;> first | rfl | exact nomatch (show false = true from h)
theorem snd (a : E) : Snd tb N Φ n a := by
  induction a
  all_goals constructor
  all_goals first
    | exact fun X sc x g hs h => nomatch (show false = true from h)
    | exact fun X sc xs op pos g hs h => nomatch (show false = true from h)
    | exact fun X sc tg x g hs h => nomatch (show false = true from h)
    | exact fun X sc x y g hs h => nomatch (show false = true from h)
    | skip
  case v.fe i =>
    intro X sc x g hs h
    unfold mE at h
    split at h
    · obtain ⟨h1, h2, h3, h4⟩ := visB_of g hs h
      exact d_var h1 h2 h3 h4
    · exact nomatch h
  case int.fe k =>
    intro X sc x g hs h
    unfold mE at h
    split at h
    · rw [eq_of_beq h]
      exact d_const pe_int (fun _ _ => .int _) (by intro ds e; cases e)
    · exact nomatch h
  case bl.fe k =>
    intro X sc x g hs h
    unfold mE at h
    split at h
    · rw [eq_of_beq h]
      exact d_const pe_bl (fun _ _ => .bl _) (by intro ds e; cases e)
    · exact nomatch h
  case non.fe =>
    intro X sc x g hs h
    unfold mE at h
    split at h
    · exact d_const pe_non (fun _ _ => .non) (by intro ds e; cases e)
    · exact nomatch h
  case str.fe k =>
    intro X sc x g hs h
    unfold mE at h
    split at h
    · rw [eq_of_beq h]
      exact d_const pe_str (fun _ _ => .str _) (by intro ds e; cases e)
    · exact nomatch h
  case glob.fe y k =>
    intro X sc x g hs h
    unfold mE at h
    split at h
    · simp only [Bool.and_eq_true] at h
      obtain ⟨⟨h1, h2⟩, h3⟩ := h
      obtain rfl := eq_of_beq h1
      obtain ⟨k1, k2, k3⟩ := glB_of hs h2
      obtain ⟨u, q1, q2⟩ := g.gs _ _ h3
      exact d_const (pe_glob k1 q1 q2 k2) (fun _ _ => .int _) (by intro ds e; cases e)
    · exact nomatch h
  case neg.fe a ih =>
    intro X sc x g hs h
    unfold mE at h
    split at h
    · exact d_neg (ih.fe X sc _ g hs h)
    · exact nomatch h
  case vnot.fe a ih =>
    intro X sc x g hs h
    unfold mE at h
    split at h
    · exact d_vnot (ih.fe X sc _ g hs h)
    · exact nomatch h
  case bin.fe op a b iha ihb =>
    intro X sc x g hs h
    unfold mE at h
    split at h
    · simp only [Bool.and_eq_true] at h
      obtain ⟨⟨h1, h2⟩, h3⟩ := h
      obtain rfl := eq_of_beq h1
      exact d_bin (readR_of g hs h2 (iha.fe X sc _ g hs h2)) (readR_of g hs h3 (ihb.fe X sc _ g hs h3))
    · exact nomatch h
  case cmp.fe op a b iha ihb =>
    intro X sc x g hs h
    unfold mE at h
    split at h
    · simp only [Bool.and_eq_true] at h
      obtain ⟨⟨⟨h1, h0⟩, h2⟩, h3⟩ := h
      obtain rfl := eq_of_beq h1
      exact d_cmp g.un64 (by unfold noMarks at h0; simpa using h0) (readR_of g hs h2 (iha.fe X sc _ g hs h2)) (readR_of g hs h3 (ihb.fe X sc _ g hs h3))
    · exact nomatch h
  case isN.fe a ih =>
    intro X sc x g hs h
    unfold mE at h
    split at h
    · exact d_isN (readR_of g hs h (ih.fe X sc _ g hs h))
    · exact nomatch h
  case notN.fe a ih =>
    intro X sc x g hs h
    unfold mE at h
    split at h
    · exact d_notN (readR_of g hs h (ih.fe X sc _ g hs h))
    · exact nomatch h
  case chn.fe o1 o2 a b c iha ihb ihc =>
    intro X sc x g hs h
    unfold mE at h
    split at h
    · simp only [Bool.and_eq_true] at h
      obtain ⟨⟨⟨⟨⟨h1, h2⟩, h0⟩, ha⟩, hb⟩, hc⟩ := h
      obtain rfl := eq_of_beq h1
      obtain rfl := eq_of_beq h2
      exact d_chn g.un64 (by simpa using h0) (readR_of g hs ha (iha.fe X sc _ g hs ha)) (readR_of g hs hb (ihb.fe X sc _ g hs hb)) (readR_of g hs hc (ihc.fe X sc _ g hs hc))
    · exact nomatch h
  case vbo.fe op as ih =>
    intro X sc x g hs h
    unfold mE at h
    split at h
    · simp only [Bool.and_eq_true] at h
      obtain ⟨h1, h2⟩ := h
      obtain rfl := eq_of_beq h1
      exact ih.fv X sc _ _ _ g hs h2
    · exact nomatch h
  case ife.fe c a b ihc iha ihb =>
    intro X sc x g hs h
    unfold mE at h
    split at h
    · simp only [Bool.and_eq_true] at h
      obtain ⟨⟨h1, h2⟩, h3⟩ := h
      exact d_ife (ihc.ft X sc _ g hs h1) (iha.fe X sc _ g hs h2) (ihb.fe X sc _ g hs h3)
    · exact nomatch h
  case tup.fe as ih =>
    intro X sc x g hs h
    unfold mE at h
    split at h
    · exact d_tup (ih.fc X sc _ g hs h)
    · exact nomatch h
  case lst.fe as ih =>
    intro X sc x g hs h
    unfold mE at h
    split at h
    · exact d_lst (ih.fc X sc _ g hs h)
    · exact nomatch h
  case sub.fe a i iha ihi =>
    intro X sc x g hs h
    unfold mE at h
    split at h
    · simp only [Bool.and_eq_true] at h
      obtain ⟨⟨⟨h0, h1⟩, h2⟩, h3⟩ := h
      exact d_sub (readR_of g hs h2 (iha.fe X sc _ g hs h2)) (readR_of g hs h3 (ihi.fe X sc _ g hs h3)) (plain_ix h0)
    · exact nomatch h
  case sli.fe a lo hi iha ihl ihh =>
    intro X sc x g hs h
    unfold mE at h
    split at h
    · simp only [Bool.and_eq_true] at h
      obtain ⟨⟨h1, h2⟩, h3⟩ := h
      exact d_sli (readR_of g hs h1 (iha.fe X sc _ g hs h1)) (ihl.fo X sc _ g hs h2) (ihh.fo X sc _ g hs h3)
    · exact nomatch h
  case rev.fe a ih =>
    intro X sc x g hs h
    unfold mE at h
    split at h
    · exact d_rev (readR_of g hs h (ih.fe X sc _ g hs h))
    · exact nomatch h
  case isi.fe ty a ih =>
    intro X sc x g hs h
    unfold mE at h
    split at h
    · simp only [Bool.and_eq_true] at h
      obtain ⟨⟨⟨⟨⟨⟨⟨⟨h1, h2⟩, h3⟩, h4⟩, h5⟩, h6⟩, h7⟩, h8⟩, h9⟩ := h
      obtain rfl := eq_of_beq h1
      obtain ⟨k1, k2, k3⟩ := glB_of hs h2
      obtain ⟨q1, q2, q3⟩ := glB_of hs h6
      exact d_isi h5 (eq_of_beq h4) k1 (g.bs _ h3) q1 (g.bs _ h7) q3 q2 h9 (readR_of g hs h8 (ih.fe X sc _ g hs h8))
    · exact nomatch h
  case fn.fe f as ih =>
    intro X sc x g hs h
    unfold mE at h
    split at h
    · simp only [Bool.and_eq_true] at h
      obtain ⟨⟨⟨⟨h1, h2⟩, h3⟩, h4⟩, h5⟩ := h
      obtain rfl := eq_of_beq h1
      obtain ⟨k1, k2, k3⟩ := glB_of hs h2
      exact d_fn h4 g.un g.calm g.gd k1 (g.bs _ h3) (mA_star h5) (RdAP.rd (ih.fa X sc _ g hs h5))
    · exact nomatch h
  case met.fe m o as iho iha =>
    intro X sc x g hs h
    unfold mE at h
    split at h
    · simp only [Bool.and_eq_true] at h
      obtain ⟨⟨⟨⟨⟨⟨h1, h2⟩, h3⟩, h4⟩, h5⟩, h6⟩, h7⟩ := h
      obtain rfl := eq_of_beq h1
      obtain rfl := eq_of_beq h2
      exact d_met h4 h3 (of_decide_eq_true h7) (mA_star h6) (readR_of g hs h5 (iho.fe X sc _ g hs h5)) (RdAP.rd (iha.fa X sc _ g hs h6))
    · exact nomatch h
  case call.fe f as ih =>
    intro X sc x g hs h
    unfold mE at h
    split at h
    · simp only [Bool.and_eq_true] at h
      obtain ⟨⟨⟨h1, h2⟩, h3⟩, h4⟩ := h
      obtain rfl := eq_of_beq h1
      obtain ⟨k1, k2, k3⟩ := glB_of hs h2
      obtain ⟨a, fd, ps, q1, q2, q3, q4, q5⟩ := g.fs _ h3
      exact d_call q4 q5 g.room g.gd k1 q1 q2 q3 k2 (mA_star h4) (ih.fc X sc _ g hs h4)
    · exact nomatch h
  case comp.fe own tg it c elt ihi ihc ihe =>
    intro X sc x g hs h
    unfold mE at h
    split at h
    · rename_i el t i ifs scope pos
      simp only [Bool.and_eq_true] at h
      obtain ⟨⟨⟨⟨⟨h1, h2⟩, h3⟩, h4⟩, h5⟩, h6⟩ := h
      have hr : ∀ (s : Shared) (H : Hp) (C : Addr) (cl : List (Str × Addr)) (fp : List Addr), (X.blk s H scope (compEnvC scope cl C X.env) fp).env.scope = relS scope sc := fun s H C cl fp => by rw [← hs]; rfl
      refine d_comp (tg := tg) (pl := fun ρ => plainI ρ it) (fi := evI Φ it) (ft := evT Φ c) (fe := ev Φ elt) (fr1 := isFr elt) g.calm (by rw [g.hN]; exact g.nd) h3 (ihi.fi X sc _ _ g hs h4) (by rw [g.hN, hs]; exact blkOk_by h1)
        (fun s H C cl fp => d_tg (X := X.blk s H scope (compEnvC scope cl C X.env) fp) g.hN g.nd g.calm (blk_vis (X := X) s H C cl fp) _ _ h2) (fun s H C cl fp => ?_) (fun s H C cl fp => ihe.fe _ _ _ (g.blk s H scope _ fp) (hr s H C cl fp) h6) ?_
      · split at h5
        · cases c <;> first | exact nomatch (show false = true from h5) | exact d_tyes
        · exact pts_one (ihc.ft _ _ _ (g.blk s H scope _ fp) (hr s H C cl fp) h5)
        · exact nomatch h5
      · intro y
        cases i <;> first | rfl | (cases it <;> first | exact nomatch (show false = true from h4) | (cases t <;> exact nomatch (show false = true from h4)))
    · exact nomatch h
  case tbo.ft op as ih =>
    intro X sc x g hs h
    unfold mT at h
    split at h
    · simp only [Bool.and_eq_true] at h
      obtain ⟨h1, h2⟩ := h
      obtain rfl := eq_of_beq h1
      exact (ih.fb X sc _ _ _ g hs h2).pt
    · exact nomatch h
  case tnot.ft a ih =>
    intro X sc x g hs h
    unfold mT at h
    split at h
    · exact d_tnot (ih.ft X sc _ g hs h)
    · exact nomatch h
  case tval.ft a ih =>
    intro X sc x g hs h
    unfold mT at h
    simp only [Bool.and_eq_true] at h
    exact d_tval (readR_of g hs h.2 (ih.fe X sc _ g hs h.2)) (plain_true h.1)
  case tcmp.ft op a b iha ihb =>
    intro X sc x g hs h
    unfold mT at h
    split at h
    · simp only [Bool.and_eq_true] at h
      obtain ⟨⟨⟨h1, h0⟩, h2⟩, h3⟩ := h
      obtain rfl := eq_of_beq h1
      exact d_tcmp g.un64 (by unfold noMarks at h0; simpa using h0) (readR_of g hs h2 (iha.fe X sc _ g hs h2)) (readR_of g hs h3 (ihb.fe X sc _ g hs h3))
    · exact nomatch h
  case tchn.ft o1 o2 a b c iha ihb ihc =>
    intro X sc x g hs h
    unfold mT at h
    split at h
    · simp only [Bool.and_eq_true] at h
      obtain ⟨⟨⟨⟨⟨h1, h2⟩, h0⟩, ha⟩, hb⟩, hc⟩ := h
      obtain rfl := eq_of_beq h1
      obtain rfl := eq_of_beq h2
      exact d_tchn g.un64 (by simpa using h0) (readR_of g hs ha (iha.fe X sc _ g hs ha)) (readR_of g hs hb (ihb.fe X sc _ g hs hb)) (readR_of g hs hc (ihc.fe X sc _ g hs hc))
    · exact nomatch h
  case tisN.ft a ih =>
    intro X sc x g hs h
    unfold mT at h
    split at h
    · exact d_tisN (readR_of g hs h (ih.fe X sc _ g hs h))
    · exact nomatch h
  case tnotN.ft a ih =>
    intro X sc x g hs h
    unfold mT at h
    split at h
    · exact d_tnotN (readR_of g hs h (ih.fe X sc _ g hs h))
    · exact nomatch h
  case nil.fa =>
    intro X sc xs g hs h
    cases xs with
    | nil => exact d_anil
    | cons _ _ => exact nomatch (show false = true from h)
  case nil.fc =>
    intro X sc xs g hs h
    cases xs with
    | nil => exact d_cnil
    | cons _ _ => exact nomatch (show false = true from h)
  case cons.fa a as iha ihas =>
    intro X sc xs g hs h
    cases xs with
    | nil => exact nomatch (show false = true from h)
    | cons x r =>
      have h : (noStar x && mE tb N sc a x && mA tb N sc as r) = true := h
      simp only [Bool.and_eq_true] at h
      exact d_acons h.1.1 (read_of g hs h.1.2 (iha.fe X sc _ g hs h.1.2)) (ihas.fa X sc _ g hs h.2)
  case cons.fc a as iha ihas =>
    intro X sc xs g hs h
    cases xs with
    | nil => exact nomatch (show false = true from h)
    | cons x r =>
      have h : (noStar x && mE tb N sc a x && mA tb N sc as r) = true := h
      simp only [Bool.and_eq_true] at h
      exact d_ccons h.1.1 (slot_of g hs h.1.2 (iha.fe X sc _ g hs h.1.2)) (ihas.fc X sc _ g hs h.2)
  case cons.fb a as iha ihas =>
    intro X sc xs op pos g hs h
    cases xs with
    | nil => exact nomatch (show false = true from h)
    | cons x r =>
      unfold mB at h
      simp only [Bool.and_eq_true] at h
      cases as with
      | nil =>
        obtain rfl : r = [] := by simpa using h.2
        have e : (evB Φ op (.cons a .nil)) = fun ρ => evT Φ a ρ := by
          funext ρ
          show ((evT Φ a ρ).bind fun k => .ret k) = _
          exact T.bind_eta _
        rw [e]
        cases op with
        | And => exact pw_and1 (iha.ft X sc _ g hs h.1)
        | Or => exact pw_or1 (iha.ft X sc _ g hs h.1)
      | cons b c =>
        cases r with
        | nil => exact nomatch (show false = true from h.2)
        | cons y r =>
          cases op with
          | And => exact d_wand (iha.ft X sc _ g hs h.1) (ihas.fb X sc _ .And pos g hs h.2)
          | Or => exact d_wor (iha.ft X sc _ g hs h.1) (ihas.fb X sc _ .Or pos g hs h.2)
      | _ => exact nomatch (show false = true from h.2)
  case cons.fv a as iha ihas =>
    intro X sc xs op pos g hs h
    cases xs with
    | nil => exact nomatch (show false = true from h)
    | cons x r =>
      unfold mV at h
      simp only [Bool.and_eq_true] at h
      cases as with
      | nil =>
        obtain rfl : r = [] := by simpa using h.2
        have e : (evV Φ op (.cons a .nil)) = fun ρ => ev Φ a ρ := by
          funext ρ
          show ((ev Φ a ρ).bind fun k => .ret k) = _
          exact T.bind_eta _
        rw [e]
        exact (pe_one (iha.fe X sc _ g hs h.1)).imp fun σ H Q ⟨S, B, b, ρ, c, er, w⟩ => ⟨S, B, b, ρ, c, er, T.wp_mono (fun d b' q v H' x r => q v H' x (.of r.1)) w⟩
      | cons b c =>
        cases r with
        | nil => exact nomatch (show false = true from h.2)
        | cons y r =>
          cases op with
          | And =>
            have e : (evV Φ .And (.cons a (.cons b c))) = fun ρ => (ev Φ a ρ).bind fun | .bool k => if k then evV Φ .And (.cons b c) ρ else .ret (.bool false) | _ => .fail := by
              funext ρ
              show (ev Φ a ρ).bind _ = _
              congr 1
              funext x
              cases x <;> rfl
            rw [e]
            exact d_and (iha.fe X sc _ g hs h.1) (ihas.fv X sc _ .And pos g hs h.2)
          | Or =>
            have e : (evV Φ .Or (.cons a (.cons b c))) = fun ρ => (ev Φ a ρ).bind fun | .bool k => if k then .ret (.bool true) else evV Φ .Or (.cons b c) ρ | _ => .fail := by
              funext ρ
              show (ev Φ a ρ).bind _ = _
              congr 1
              funext x
              cases x <;> rfl
            rw [e]
            exact d_or (iha.fe X sc _ g hs h.1) (ihas.fv X sc _ .Or pos g hs h.2)
      | _ => exact nomatch (show false = true from h.2)
  case no.fo =>
    intro X sc x g hs h
    cases x with
    | none => exact d_ono
    | some _ => exact nomatch (show false = true from h)
  case cons.fo a as iha ihas =>
    intro X sc x g hs h
    cases as with
    | no =>
      cases x with
      | none => exact nomatch (show false = true from h)
      | some x => exact d_osome (iha.fe X sc _ g hs h)
    | _ => cases x <;> exact nomatch (show false = true from h)
  case ival.fi a ih =>
    intro X sc tg x g hs h
    unfold mI at h
    simp only [Bool.and_eq_true] at h
    exact d_ival (read_of g hs h.2 (ih.fe X sc _ g hs h.2))
  case irng.fi as ih =>
    intro X sc tg x g hs h
    unfold mI at h
    split at h
    · rename_i gn p x xs pos
      simp only [Bool.and_eq_true, Bool.or_eq_true, beq_iff_eq] at h
      obtain ⟨⟨⟨⟨h1, h2⟩, h3⟩, h5⟩, h4⟩ := h
      subst h1
      obtain ⟨k1, k2, k3⟩ := glB_of hs h2
      have hst := mA_star h4
      cases xs with
      | nil =>
        obtain ⟨a', rfl, q⟩ := ih.f1 X sc _ g hs h4
        exact d_irng1 (hst _ (by simp)) k1 (g.bs _ h3) q
      | cons y ys =>
        cases ys with
        | nil =>
          obtain ⟨a', b', rfl, q, q2⟩ := ih.f2 X sc _ _ g hs h4
          exact d_irng2 (hst _ (by simp)) (hst _ (by simp)) k1 (g.bs _ h3) q q2
        | cons z zs => simp at h5
    · exact nomatch h
  case ienum.fi as ih =>
    intro X sc tg x g hs h
    unfold mI at h
    split at h
    · simp only [Bool.and_eq_true] at h
      obtain ⟨⟨⟨h1, h2⟩, h3⟩, h4⟩ := h
      obtain rfl := eq_of_beq h1
      obtain ⟨k1, k2, k3⟩ := glB_of hs h2
      exact d_ienum (mA_star h4 _ (by simp)) k1 (g.bs _ h3) (ih.fa X sc _ g hs h4)
    · exact nomatch h
  case izip.fi as ih =>
    intro X sc tg x g hs h
    unfold mI at h
    split at h
    · simp only [Bool.and_eq_true] at h
      obtain ⟨⟨⟨h1, h2⟩, h3⟩, h4⟩ := h
      obtain rfl := eq_of_beq h1
      obtain ⟨k1, k2, k3⟩ := glB_of hs h2
      exact d_izip (mA_star h4 _ (by simp)) (mA_star h4 _ (by simp)) k1 (g.bs _ h3) (ih.fa X sc _ g hs h4)
    · exact nomatch h
  case cons.f1 a as iha ihas =>
    intro X sc x g hs h
    have h : (noStar x && mE tb N sc a x && mA tb N sc as []) = true := h
    simp only [Bool.and_eq_true] at h
    obtain rfl := mA_nil h.2
    exact ⟨a, rfl, readR_of g hs h.1.2 (iha.fe X sc _ g hs h.1.2)⟩
  case cons.f2 a as iha ihas =>
    intro X sc x y g hs h
    have h : (noStar x && mE tb N sc a x && mA tb N sc as [y]) = true := h
    simp only [Bool.and_eq_true] at h
    obtain ⟨b', rfl, q⟩ := ihas.f1 X sc y g hs h.2
    exact ⟨a, b', rfl, readR_of g hs h.1.2 (iha.fe X sc _ g hs h.1.2), q⟩
end
end RG
end

section
set_option Elab.async false
set_option linter.all false
set_option maxRecDepth 100000
set_option maxHeartbeats 4000000
/-! Statements by data. -/
namespace RG
open PySem PySem.Spec PySem.Calls PyProof.Rows L2

/-- where a body stands: S the state's addresses, B0 what was barred at the entry's heap H0, O the lists that names alone hold -/
structure SR (S B0 : Ads) (H0 : Hp) (b0 : Nat) (O : Ads) (b : Nat) (σ : L2.St) (H : Hp) (ρ : Rho) : Prop where
  c0 : Ctx S B0 H0
  x : Ext S b0 b H0 H
  o : ∀ a, O a → H0 a = none ∧ H a ≠ none
  er : ER S (fun a => B0 a ∨ O a) b σ H ρ
  own : ∀ (i : Nat) (d : PyData) (a : Addr), ρ[i]? = some (.ow d) → σ[i]? = some (some (.ref a)) → O a
section
variable {S B0 O : Ads} {H0 H H1 : Hp} {b0 b b1 : Nat} {σ : L2.St} {ρ : Rho}
theorem SR.ctx (r : SR S B0 H0 b0 O b σ H ρ) : Ctx S (fun a => B0 a ∨ O a) H :=
  ⟨fun a q => .inl (r.c0.sb a q), fun a q => q.elim (fun q => r.x.dom a (r.c0.dom a q)) fun q => (r.o a q).2⟩
theorem SR.ext (r : SR S B0 H0 b0 O b σ H ρ) (x : Ext S b b1 H H1) : SR S B0 H0 b0 O b1 σ H1 ρ :=
  ⟨r.c0, r.x.trans x, fun a q => ⟨(r.o a q).1, x.dom a (r.o a q).2⟩, r.er.ext r.ctx x, r.own⟩
theorem SR.setVa {v : V} {d : PyData} (r : SR S B0 H0 b0 O b σ H ρ) (h : Dn (fun a => B0 a ∨ O a) H v d) (i : Nat) : SR S B0 H0 b0 O b (σ.set i (some v)) H (ρ.set i (.va d)) := by
  refine ⟨r.c0, r.x, r.o, r.er.setVa h i, fun j e a h1 h2 => ?_⟩
  by_cases hj : j = i
  · subst hj
    by_cases hi : j < ρ.length
    · rw [List.getElem?_set_self hi] at h1
      cases h1
    · rw [List.getElem?_eq_none (by rw [List.length_set]; omega)] at h1
      cases h1
  · rw [List.getElem?_set_ne (Ne.symm hj)] at h1 h2
    exact r.own j e a h1 h2
theorem or_ass {B O : Ads} {p : Addr} : (fun a => (B a ∨ O a) ∨ a = p) = fun a => B a ∨ (O a ∨ a = p) := funext fun a => propext or_assoc
theorem SR.setOw {p : Addr} {xs : List V} {ds : List PyData} (r : SR S B0 H0 b0 O b σ H ρ) (x : Ext S b b1 H H1) (hp : H p = none) (e : H1 p = some (.lst xs)) (hz : ds.length ≤ 16777216) (l : DnL (fun a => (B0 a ∨ O a) ∨ a = p) H1 xs ds) (i : Nat) :
    SR S B0 H0 b0 (fun a => O a ∨ a = p) b1 (σ.set i (some (.ref p))) H1 (ρ.set i (.ow (.list ds))) := by
  have np : ¬ S p := r.ctx.nS hp
  have er := r.er.bar r.ctx x hp
  rw [or_ass] at er l
  have oth : ∀ j, j ≠ i → (σ.set i (some (.ref p)))[j]? = σ[j]? ∧ (ρ.set i (.ow (.list ds)))[j]? = ρ[j]? := fun j hj => ⟨List.getElem?_set_ne (Ne.symm hj), List.getElem?_set_ne (Ne.symm hj)⟩
  have own : ∀ s, (ρ.set i (.ow (.list ds)))[i]? = some s → s = .ow (.list ds) ∧ (σ.set i (some (.ref p)))[i]? = some (some (.ref p)) := fun s e => by
    by_cases hi : i < ρ.length
    · rw [List.getElem?_set_self hi] at e
      exact ⟨(Option.some.inj e).symm, List.getElem?_set_self (by rw [er.len]; exact hi)⟩
    · rw [List.getElem?_eq_none (by rw [List.length_set]; omega)] at e
      cases e
  have notp : ∀ (j : Nat) (a : Addr) (d : PyData), ρ[j]? = some (Sl.ow d) → σ[j]? = some (some (V.ref a)) → a ≠ p := fun j a d h1 h2 z => by
    subst z
    exact (r.o _ (r.own j d _ h1 h2)).2 hp
  refine ⟨r.c0, r.x.trans x, fun a q => ?_, ⟨by rw [List.length_set, List.length_set]; exact er.len, fun j d h1 => ?_, fun j d h1 => ?_, fun j h1 => ?_, fun j k a d d' hjk h1 h2 h3 => ?_⟩, fun j d a h1 h2 => ?_⟩
  · rcases q with q | q
    · exact ⟨(r.o a q).1, x.dom a (r.o a q).2⟩
    · subst q
      exact ⟨r.x.free hp, by rw [e]; simp⟩
  · by_cases hj : j = i
    · subst hj
      cases (own _ h1).1
    · rw [(oth j hj).2] at h1
      obtain ⟨u, q1, q2⟩ := er.va j d h1
      exact ⟨u, by rw [(oth j hj).1]; exact q1, q2⟩
  · by_cases hj : j = i
    · subst hj
      obtain ⟨q1, q2⟩ := own _ h1
      cases q1
      exact ⟨p, q2, .inr (.inr rfl), np, .own e np hz l⟩
    · rw [(oth j hj).2] at h1
      obtain ⟨u, q1, q2⟩ := er.ow j d h1
      exact ⟨u, by rw [(oth j hj).1]; exact q1, q2⟩
  · by_cases hj : j = i
    · subst hj
      cases (own _ h1).1
    · rw [(oth j hj).2] at h1
      obtain ⟨u, q1, q2⟩ := er.st j h1
      exact ⟨u, by rw [(oth j hj).1]; exact q1, q2⟩
  · by_cases hj : j = i
    · subst hj
      have hk : k ≠ j := Ne.symm hjk
      rw [(own _ h1).2] at h3
      cases h3
      rw [(oth k hk).1]
      rw [(oth k hk).2] at h2
      exact fun z => notp k p d' h2 z rfl
    · rw [(oth j hj).2] at h1
      rw [(oth j hj).1] at h3
      by_cases hk : k = i
      · subst hk
        rw [(own _ h2).2]
        intro z
        cases z
        exact notp j p d h1 h3 rfl
      · rw [(oth k hk).2] at h2
        rw [(oth k hk).1]
        exact er.dis j k a d d' hjk h1 h2 h3
  · by_cases hj : j = i
    · subst hj
      obtain ⟨q1, q2⟩ := own _ h1
      rw [q2] at h2
      cases h2
      exact .inr rfl
    · rw [(oth j hj).2] at h1
      rw [(oth j hj).1] at h2
      exact .inl (r.own j d a h1 h2)
/-- what an own list becomes -/
theorem SR.upd {i : Nat} {ds ds' : List PyData} {p : Addr} {xs' : List V} (r : SR S B0 H0 b0 O b σ H ρ) (hi : ρ[i]? = some (.ow (.list ds))) (hp : σ[i]? = some (some (.ref p))) (hz : ds'.length ≤ 16777216) (l : DnL (fun a => B0 a ∨ O a) H xs' ds') :
    SR S B0 H0 b0 O b σ (L2.upd H p (.lst xs')) (ρ.set i (.ow (.list ds'))) := by
  have ho := r.own i _ p hi hp
  have np : ¬ S p := fun q => r.c0.dom p (r.c0.sb p q) (r.o p ho).1
  have hk : ∀ a o, H a = some o → ¬ (B0 a ∨ O a) → L2.upd H p (.lst xs') a = some o ∧ ¬ (B0 a ∨ O a) := fun a o e n => ⟨by rw [upd_ne fun z => n (.inr (by rw [z]; exact ho))]; exact e, n⟩
  have stA : ∀ {k a}, StA S k H a → StA S k (L2.upd H p (.lst xs')) a := fun ⟨h0, c, ns, k, q, y, z, w, h1, h2, h3, h4, h5⟩ =>
    ⟨h0, c, ns, k, q, y, z, w, h1, h2, by rw [upd_ne fun e => np (by rw [← e]; exact h0)]; exact h3, by rw [upd_ne fun e => np (by rw [← e]; exact h1)]; exact h4, h5⟩
  have hlt : i < ρ.length := (List.getElem?_eq_some_iff.mp hi).1
  have oth : ∀ j, j ≠ i → (ρ.set i (.ow (.list ds')))[j]? = ρ[j]? := fun j hj => List.getElem?_set_ne (Ne.symm hj)
  have own : (ρ.set i (.ow (.list ds')))[i]? = some (.ow (.list ds')) := List.getElem?_set_self hlt
  refine ⟨r.c0, ?_, fun a q => ⟨(r.o a q).1, ?_⟩, ⟨by rw [List.length_set]; exact r.er.len, fun j d h1 => ?_, fun j d h1 => ?_, fun j h1 => ?_, fun j k a d d' hjk h1 h2 h3 => ?_⟩, fun j d a h1 h2 => ?_⟩
  · refine ⟨fun a o e n => ?_, fun a e => ?_, fun a e => stA (r.x.st a e), r.x.le⟩
    · rw [upd_ne fun z => by subst z; rw [(r.o _ ho).1] at e; cases e]
      exact r.x.keep a o e n
    · by_cases z : a = p
      · subst z; exact absurd (r.o _ ho).1 e
      · rw [upd_ne z]; exact r.x.dom a e
  · by_cases z : a = p
    · subst z; rw [upd_same]; simp
    · rw [upd_ne z]; exact (r.o a q).2
  · by_cases hj : j = i
    · subst hj; rw [own] at h1; cases h1
    · rw [oth j hj] at h1
      obtain ⟨u, q1, q2⟩ := r.er.va j d h1
      exact ⟨u, q1, q2.imp hk⟩
  · by_cases hj : j = i
    · subst hj
      rw [own] at h1
      cases h1
      exact ⟨p, hp, .inr ho, np, .own upd_same np hz (l.imp hk)⟩
    · rw [oth j hj] at h1
      obtain ⟨u, q1, q2, q3, q4⟩ := r.er.ow j d h1
      have hne : u ≠ p := fun z => by subst z; exact r.er.dis j i u _ _ hj h1 hi q1 hp
      refine ⟨u, q1, q2, q3, ?_⟩
      cases q4 with
      | of q4 => exact .of (q4.imp hk)
      | own e n z l => exact .own (by rw [upd_ne hne]; exact e) n z (l.imp hk)
  · by_cases hj : j = i
    · subst hj; rw [own] at h1; cases h1
    · rw [oth j hj] at h1
      obtain ⟨u, q1, q2⟩ := r.er.st j h1
      exact ⟨u, q1, stA q2⟩
  · have key : ∀ j d, (ρ.set i (.ow (.list ds')))[j]? = some (Sl.ow d) → ∃ d, ρ[j]? = some (Sl.ow d) := fun j d h => by
      by_cases hj : j = i
      · subst hj; exact ⟨_, hi⟩
      · rw [oth j hj] at h; exact ⟨_, h⟩
    obtain ⟨e1, h1⟩ := key j d h1
    obtain ⟨e2, h2⟩ := key k d' h2
    exact r.er.dis j k a e1 e2 hjk h1 h2 h3
  · by_cases hj : j = i
    · subst hj; exact r.own _ _ a hi h2
    · rw [oth j hj] at h1; exact r.own j d a h1 h2
/-- an own list becomes a value -/
theorem SR.dem {i : Nat} {d : PyData} (r : SR S B0 H0 b0 O b σ H ρ) (hi : ρ[i]? = some (.ow d)) : ∃ O', SR S B0 H0 b0 O' b σ H (ρ.set i (.va d)) := by
  obtain ⟨p, hp, hb, np, hd⟩ := r.er.ow i d hi
  have ho := r.own i _ p hi hp
  have hlt : i < ρ.length := (List.getElem?_eq_some_iff.mp hi).1
  have oth : ∀ j, j ≠ i → (ρ.set i (.va d))[j]? = ρ[j]? := fun j hj => List.getElem?_set_ne (Ne.symm hj)
  have own : (ρ.set i (.va d))[i]? = some (.va d) := List.getElem?_set_self hlt
  have hb : ∀ a, (B0 a ∨ (O a ∧ a ≠ p)) → (B0 a ∨ O a) := fun a q => q.imp id And.left
  have nb : ¬ (B0 p ∨ (O p ∧ p ≠ p)) := fun q => q.elim (fun q => r.c0.dom p q (r.o p ho).1) fun q => q.2 rfl
  refine ⟨fun a => O a ∧ a ≠ p, r.c0, r.x, fun a q => r.o a q.1, ⟨by rw [List.length_set]; exact r.er.len, fun j e h1 => ?_, fun j e h1 => ?_, fun j h1 => ?_, fun j k a e e' hjk h1 h2 h3 => ?_⟩, fun j e a h1 h2 => ?_⟩
  · by_cases hj : j = i
    · subst hj
      rw [own] at h1
      cases h1
      refine ⟨_, hp, ?_⟩
      cases hd with
      | of hd => exact hd.unbar hb
      | own e n z l => exact .lst e nb z (l.unbar hb)
    · rw [oth j hj] at h1
      obtain ⟨u, q1, q2⟩ := r.er.va j e h1
      exact ⟨u, q1, q2.unbar hb⟩
  · have hj : j ≠ i := fun z => by subst z; rw [own] at h1; cases h1
    rw [oth j hj] at h1
    obtain ⟨u, q1, q2, q3, q4⟩ := r.er.ow j e h1
    have hne : u ≠ p := fun z => by subst z; exact r.er.dis j i u _ _ hj h1 hi q1 hp
    refine ⟨u, q1, .inr ⟨r.own j _ u h1 q1, hne⟩, q3, ?_⟩
    cases q4 with
    | of q4 => exact .of (q4.unbar hb)
    | own e n z l => exact .own e n z (l.unbar hb)
  · have hj : j ≠ i := fun z => by subst z; rw [own] at h1; cases h1
    rw [oth j hj] at h1
    exact r.er.st j h1
  · have hj : j ≠ i := fun z => by subst z; rw [own] at h1; cases h1
    have hk : k ≠ i := fun z => by subst z; rw [own] at h2; cases h2
    rw [oth j hj] at h1
    rw [oth k hk] at h2
    exact r.er.dis j k a e e' hjk h1 h2 h3
  · have hj : j ≠ i := fun z => by subst z; rw [own] at h1; cases h1
    rw [oth j hj] at h1
    exact ⟨r.own j e a h1 h2, fun z => by subst z; exact r.er.dis j i _ _ _ hj h1 hi h2 hp⟩
theorem SR.kil (r : SR S B0 H0 b0 O b σ H ρ) (vs : List Nat) : SR S B0 H0 b0 O b σ H (wipeR ρ vs) := by
  refine ⟨r.c0, r.x, r.o, r.er.wipeR vs, fun j e a h1 h2 => r.own j e a ?_ h2⟩
  rw [wipeR_get] at h1
  by_cases hm : j ∈ vs
  · rw [if_pos hm] at h1
    split at h1 <;> cases h1
  · rw [if_neg hm] at h1
    exact h1
/-- from this heap on, the own lists left out of what is to be kept -/
noncomputable def hid (O : Ads) (H : Hp) : Hp := fun a => open Classical in if O a then none else H a
theorem SR.rebase (r : SR S B0 H0 b0 O b σ H ρ) : SR S B0 (hid O H) b O b σ H ρ := by
  have nO : ∀ a, H0 a ≠ none → ¬ O a := fun a h q => h (r.o a q).1
  have nB : ∀ a, B0 a → ¬ O a := fun a h => nO a (r.c0.dom a h)
  refine ⟨⟨r.c0.sb, fun a q => ?_⟩, ⟨fun a o e n => ?_, fun a e => ?_, fun a e => ?_, Nat.le_refl _⟩, fun a q => ⟨if_pos q, (r.o a q).2⟩, r.er, r.own⟩
  · unfold hid
    rw [if_neg (nB a q)]
    exact r.x.dom a (r.c0.dom a q)
  · unfold hid at e
    split at e
    · cases e
    · exact e
  · unfold hid at e
    split at e
    · exact absurd rfl e
    · exact e
  · obtain ⟨h0, c, ns, k, q, y, z, w, h1, h2, h3, h4, h5⟩ := e
    unfold hid at h3 h4
    rw [if_neg (nB _ (r.c0.sb _ h0))] at h3
    rw [if_neg (nB _ (r.c0.sb _ h1))] at h4
    exact ⟨h0, c, ns, k, q, y, z, w, h1, h2, h3, h4, h5⟩
/-- back to the base before -/
theorem SR.unbase {O' : Ads} {b' : Nat} {σ' : L2.St} {H' : Hp} {ρ' : Rho} (r : SR S B0 H0 b0 O b σ H ρ) (q : SR S B0 (hid O H) b O' b' σ' H' ρ') : SR S B0 H0 b0 O' b' σ' H' ρ' := by
  have nO : ∀ a, H0 a ≠ none → ¬ O a := fun a h q => h (r.o a q).1
  have nB : ∀ a, B0 a → ¬ O a := fun a h => nO a (r.c0.dom a h)
  have hh : ∀ a, ¬ O a → hid O H a = H a := fun a n => if_neg n
  refine ⟨r.c0, ⟨fun a o e n => ?_, fun a e => ?_, fun a e => ?_, Nat.le_trans q.x.le r.x.le⟩, fun a o => ⟨?_, (q.o a o).2⟩, q.er, q.own⟩
  · exact q.x.keep a o (by rw [hh a (nO a (by rw [e]; simp))]; exact r.x.keep a o e n) n
  · exact q.x.dom a (by rw [hh a (nO a e)]; exact r.x.dom a e)
  · refine q.x.st a ?_
    obtain ⟨h0, c, ns, k, p, y, z, w, h1, h2, h3, h4, h5⟩ := r.x.st a e
    exact ⟨h0, c, ns, k, p, y, z, w, h1, h2, by rw [hh _ (nB _ (r.c0.sb _ h0))]; exact h3, by rw [hh _ (nB _ (r.c0.sb _ h1))]; exact h4, h5⟩
  · have h := (q.o a o).1
    by_cases z : O a
    · exact (r.o a z).1
    · rw [hh a z] at h
      exact r.x.free h
end
end RG
end

section
set_option Elab.async false
set_option linter.all false
set_option maxRecDepth 100000
set_option maxHeartbeats 4000000
/-! Statements by data: the rules. -/
namespace RG
open PySem PySem.Spec PySem.Calls PyProof.Rows L2

def Fin (D : Ends) (S B0 : Ads) (H0 : Hp) (b0 : Nat) (p : Fl × Rho) (b' : Nat) : Prop := ∀ (O' : Ads) (σ' : L2.St) (H' : Hp), SR S B0 H0 b0 O' b' σ' H' p.2 → match p.1 with
  | .nx => D.nx σ' H'
  | .bk => D.bk σ' H'
  | .ct => D.ct σ' H'
  | .rt d => ∀ v, Dn B0 H' v d → D.rt v H'
def RdX (g : Rho → T (Fl × Rho)) : TS := fun D σ H => ∃ S B0 H0 b0 O b ρ, SR S B0 H0 b0 O b σ H ρ ∧ (g ρ).wp b (Fin D S B0 H0 b0)
/-- where a body is run -/
structure GoodS (tb : Tb) (N : List Str) (Φ : Calls) (n : Nat) (X : Cx) (sc : Scope) : Prop where
  g : Good tb N Φ n X
  hs : X.env.scope = sc
  fn : ∀ x, X.fn x = true
  kind : X.env.scope.kind = .function
  pass : PassesOwn (model X.prog X.w) X.A X.env X.xe
section
variable {tb : Tb} {N : List Str} {Φ : Calls} {n : Nat} {X : Cx} {sc : Scope}
theorem GoodS.nd (G : GoodS tb N Φ n X sc) : X.N.Nodup := by rw [G.g.hN]; exact G.g.nd
theorem GoodS.loc (G : GoodS tb N Φ n X sc) {x : Str} {i : Nat} (h : locB N sc x i = true) : X.N[i]? = some x ∧ Loc X.env.scope x := by
  unfold locB at h
  simp only [Bool.and_eq_true, Bool.or_eq_true, beq_iff_eq] at h
  refine ⟨by rw [G.g.hN]; exact h.1, ?_⟩
  rw [G.hs]
  exact h.2
theorem GoodS.tg (G : GoodS tb N Φ n X sc) {t : Tg} {e : Expr} (h : mTg N sc t e = true) : PG X e (RdG t) :=
  d_tg G.g.hN G.g.nd G.g.calm (fun x hx => ⟨by rw [G.hs]; exact hx, .inl (G.fn x)⟩) t e h
theorem GoodS.e (G : GoodS tb N Φ n X sc) {a : E} {e : Expr} (h : mE tb N sc a e = true) : PE X e (RdE (ev Φ a) (isFr a)) := (snd a).fe X sc e G.g G.hs h
theorem GoodS.r (G : GoodS tb N Φ n X sc) {a : E} {e : Expr} (h : mE tb N sc a e = true) : PE X e (RdR (fun ρ => rdOf a (ev Φ a ρ) ρ)) := readR_of G.g G.hs h (G.e h)
theorem blockKind_fn {env : Env} (hk : env.scope.kind = .function) : env.blockKind = .function := by unfold Env.blockKind; rw [hk]; rfl

/-! ### rows of statements -/
variable {st : Stmt} {sts : List Stmt} {f f2 : Rho → T (Fl × Rho)}
theorem x_nil : PSs X [] (RdX fun ρ => .ret (.nx, ρ)) := pss_nil.imp fun D σ H ⟨S, B0, H0, b0, O, b, ρ, r, w⟩ => w O σ H r
theorem x_cons (h1 : PS X st (RdX f)) (h2 : PSs X sts (RdX f2)) : PSs X (st :: sts) (RdX fun ρ => (f ρ).bind fun p => match p.1 with | .nx => f2 p.2 | q => .ret (q, p.2)) :=
  (pss_cons h1 h2).imp fun D σ H ⟨S, B0, H0, b0, O, b, ρ, r, w⟩ => ⟨S, B0, H0, b0, O, b, ρ, r, T.wp_mono (fun p b' w O' σ' H' r' => by
    cases q : p.1 with
    | nx => rw [q] at w; exact ⟨S, B0, H0, b0, O', b', p.2, r', w⟩
    | bk => rw [q] at w; exact w O' σ' H' r'
    | ct => rw [q] at w; exact w O' σ' H' r'
    | rt d => rw [q] at w; exact w O' σ' H' r') (T.wp_bind.mp w)⟩

/-! ### simple ones -/
theorem x_pas {pos : Pos} : PS X (.Pass pos) (RdX fun ρ => .ret (.nx, ρ)) := ps_pass.imp fun D σ H ⟨S, B0, H0, b0, O, b, ρ, r, w⟩ => w O σ H r
theorem x_brk {pos : Pos} : PS X (.Break pos) (RdX fun ρ => .ret (.bk, ρ)) := ps_break.imp fun D σ H ⟨S, B0, H0, b0, O, b, ρ, r, w⟩ => w O σ H r
theorem x_cnt {pos : Pos} : PS X (.Continue pos) (RdX fun ρ => .ret (.ct, ρ)) := ps_continue.imp fun D σ H ⟨S, B0, H0, b0, O, b, ρ, r, w⟩ => w O σ H r
theorem x_rai : PS X st (RdX fun ρ => .fail) := ps_never.imp fun D σ H ⟨S, B0, H0, b0, O, b, ρ, r, w⟩ => w
theorem x_retN {pos : Pos} : PS X (.Return none pos) (RdX fun ρ => .ret (.rt .none, ρ)) := ps_retN.imp fun D σ H ⟨S, B0, H0, b0, O, b, ρ, r, w⟩ => w O σ H r .non .non
theorem dn_base {S B0 O : Ads} {H0 H : Hp} {b0 b : Nat} {σ : L2.St} {ρ : Rho} {i : Nat} {d : PyData} {a : Addr} (r : SR S B0 H0 b0 O b σ H ρ) (hi : ρ[i]? = some (.ow d)) (hp : σ[i]? = some (some (.ref a))) (h : DnT S (fun a => B0 a ∨ O a) H (.ref a) d) : Dn B0 H (.ref a) d := by
  cases h with
  | of h => exact h.unbar fun a => .inl
  | own e n z l => exact .lst e (fun q => r.c0.dom a q (r.o a (r.own i _ a hi hp)).1) z (l.unbar fun a => .inl)
theorem x_ret {a : E} {e : Expr} {pos : Pos} (G : GoodS tb N Φ n X sc) (h : mE tb N sc a e = true) : PS X (.Return (some e) pos) (RdX fun ρ => (retV a (ev Φ a ρ) ρ).bind fun d => .ret (.rt d, ρ)) := by
  have gen : (∀ ρ, retV a (ev Φ a ρ) ρ = ev Φ a ρ) → PS X (.Return (some e) pos) (RdX fun ρ => (retV a (ev Φ a ρ) ρ).bind fun d => .ret (.rt d, ρ)) := fun q =>
    (ps_ret (G.e h)).imp fun D σ H ⟨S, B0, H0, b0, O, b, ρ, r, w⟩ => by
      have w : ((ev Φ a ρ).bind fun d => T.ret (Fl.rt d, ρ)).wp b (Fin D S B0 H0 b0) := by rw [← q ρ]; exact w
      exact RdE.thn r.ctx r.er w fun d b1 v H1 x res c1 er1 w => w O σ H1 (r.ext x) v (res.1.unbar fun a => .inl)
  cases a with
  | v i =>
    cases e with
    | Name x px =>
      obtain ⟨h1, h2, h3, h4⟩ := visB_of G.g G.hs (show visB N sc x i = true from h)
      refine (ps_ret (pe_var h1 h2 h3 h4)).imp fun D σ H ⟨S, B0, H0, b0, O, b, ρ, r, w⟩ => ?_
      have w : ((getR ρ i).bind fun d => T.ret (Fl.rt d, ρ)).wp b (Fin D S B0 H0 b0) := w
      unfold getR at w
      split at w
      · rename_i d hd
        obtain ⟨v, q1, q2⟩ := r.er.va i d hd
        exact ⟨v, q1, w O σ H r v (q2.unbar fun a => .inl)⟩
      · rename_i d hd
        obtain ⟨a, q1, q2, q3, q4⟩ := r.er.ow i d hd
        exact ⟨_, q1, w O σ H r _ (dn_base r hd q1 q4)⟩
      · exact w.elim
    | _ => exact nomatch (show false = true from h)
  | _ => exact gen fun _ => rfl
theorem x_ite {c : E} {t : Expr} {as bs : List Stmt} {pos : Pos} (G : GoodS tb N Φ n X sc) (h : mT tb N sc c t = true) (ha : PSs X as (RdX f)) (hb : PSs X bs (RdX f2)) : PS X (.If t as bs pos) (RdX fun ρ => (evT Φ c ρ).bind fun k => if k then f ρ else f2 ρ) :=
  (ps_if ((snd c).ft X sc t G.g G.hs h) ha hb).imp fun D σ H ⟨S, B0, H0, b0, O, b, ρ, r, w⟩ => RdT.thn r.ctx r.er w fun k b1 H1 x c1 er1 w => by
    cases k with
    | true => exact ⟨S, B0, H0, b0, O, b1, ρ, r.ext x, w⟩
    | false => exact ⟨S, B0, H0, b0, O, b1, ρ, r.ext x, w⟩

/-! ### loops -/
theorem x_whl {c : E} {t : Expr} {as : List Stmt} {pos : Pos} (G : GoodS tb N Φ n X sc) (h : mT tb N sc c t = true) (ha : PSs X as (RdX f)) : PS X (.While t as [] pos) (RdX fun ρ => whG (evT Φ c) f whFuel ρ) := by
  refine (ps_while G.pass ((snd c).ft X sc t G.g G.hs h) ha).imp fun D σ H ⟨S, B0, H0, b0, O, b, ρ, r, w⟩ => ?_
  refine ⟨fun m σ H => ∃ O' b' ρ', SR S B0 H0 b0 O' b' σ H ρ' ∧ (whG (evT Φ c) f m ρ').wp b' (Fin D S B0 H0 b0), ⟨whFuel, O, b, ρ, r, w⟩, ?_⟩
  rintro m σ H ⟨O, b, ρ, r, w⟩
  cases m with
  | zero => exact w.elim
  | succ m =>
    refine RdT.thn r.ctx r.er w fun k b1 H1 x c1 er1 w => ?_
    cases k with
    | false => exact w O σ H1 (r.ext x)
    | true =>
      refine ⟨fun σ H => ∃ O' b' ρ', SR S B0 H0 b0 O' b' σ H ρ' ∧ (whG (evT Φ c) f m ρ').wp b' (Fin D S B0 H0 b0), fun σ' H' q => ⟨m, Nat.lt_succ_self m, q⟩, S, B0, H0, b0, O, b1, ρ, r.ext x, T.wp_mono (fun p b' w O' σ' H' r' => ?_) (T.wp_bind.mp w)⟩
      cases q : p.1 with
      | nx => rw [q] at w; exact ⟨O', b', p.2, r', w⟩
      | ct => rw [q] at w; exact ⟨O', b', p.2, r', w⟩
      | bk => rw [q] at w; exact w O' σ' H' r'
      | rt d => rw [q] at w; exact w O' σ' H' r'
theorem x_for {tg : Tg} {it : E} {te ie : Expr} {as : List Stmt} {pos : Pos} (G : GoodS tb N Φ n X sc) (h1 : mTg N sc tg te = true) (h2 : mI tb N sc it te ie = true) (ha : PSs X as (RdX f)) :
    PS X (.For te ie as [] pos) (RdX fun ρ => .chk (plainI ρ it) ((evI Φ it ρ).bind fun ds => forG (fun d ρ => (asgT tg d ρ).bind fun ρ' => f ρ') ds ρ)) := by
  have hset : ∀ x, foldedSetIterable ie X.env x = pure x := by
    intro y
    cases ie <;> first | rfl | (cases it <;> first | exact nomatch (show false = true from h2) | (cases te <;> exact nomatch (show false = true from h2)))
  refine (ps_for G.pass G.g.calm ((snd it).fi X sc te ie G.g G.hs h2) (G.tg h1) ha hset).imp fun D σ H ⟨S, B0, H0, b0, O, b, ρ, r, w⟩ => ?_
  obtain ⟨hpl, w⟩ := wp_chk w
  refine ⟨S, _, b, ρ, r.ctx, r.er, T.wp_mono (fun ds b1 w J H1 Sup x hz hs hB wk hy => ?_) (T.wp_bind.mp w)⟩
  have r1 := r.ext x
  have rb := r1.rebase
  have hB := hB hpl
  have GG : ∀ {O' : Ads} {b' : Nat} {σ' : L2.St} {H2 : Hp} {ρ' : Rho}, SR S B0 (hid O H1) b1 O' b' σ' H2 ρ' → ∀ a, Sup a → H2 a = H1 a := fun {O' b' σ' H2 ρ'} r' a ha => by
    obtain ⟨n1, n2⟩ := hs a ha
    cases e : H1 a with
    | none => exact absurd e n2
    | some o => exact r'.x.keep a o (by unfold hid; rw [if_neg fun q => hB a ha (.inr q)]; exact e) n1
  refine for_it wk (fun i σ H => ∃ O' b' ρ', SR S B0 (hid O H1) b1 O' b' σ H ρ' ∧ (forG (fun d ρ => (asgT tg d ρ).bind fun ρ' => f ρ') (ds.drop i) ρ').wp b' (Fin D S B0 H0 b0)) ?_ ?_ ?_ ?_
  · exact ⟨O, b1, ρ, rb, by rw [List.drop_zero]; exact w⟩
  · rintro i σ H hi ⟨O', b', ρ', r', w⟩
    exact GG r'
  · rintro i y σ2 H2 H3 hi ⟨O', b', ρ', r', w⟩ yl
    have hdn : ∀ v d, Dn (fun a => B0 a ∨ O a) H1 v d → Dn (fun a => B0 a ∨ O' a) H2 v d := fun v d hd => hd.imp fun a o e nb => by
      have nO : ¬ O a := fun q => nb (.inr q)
      have hh : hid O H1 a = some o := by unfold hid; rw [if_neg nO]; exact e
      exact ⟨r'.x.keep a o hh fun q => nb (.inl (r.c0.sb a q)), fun q => q.elim (fun q => nb (.inl q)) fun q => by rw [(r'.o a q).1] at hh; cases hh⟩
    obtain ⟨d, hd, x3, dn⟩ := hy i H2 y H3 hi (GG r') yl _ b' r'.ctx hdn
    have e2 : ds.drop i = d :: ds.drop (i + 1) := by
      rw [List.drop_eq_getElem_cons hi]
      rw [List.getElem?_eq_getElem hi] at hd
      rw [Option.some.inj hd]
    rw [e2] at w
    have r3 := r'.ext x3
    have w := T.wp_bind.mp (T.wp_bind.mp w)
    refine ⟨S, _, b', ρ', d, r3.ctx, r3.er, dn, T.wp_mono (fun ρ2 b2 ⟨l2, w⟩ σ3 tr ho => ?_) (T.wp_le w)⟩
    refine ⟨S, B0, hid O H1, b1, O', b2, ρ2, ⟨r3.c0, ⟨r3.x.keep, r3.x.dom, fun a q => (r3.x.st a q).le l2, Nat.le_trans l2 r3.x.le⟩, r3.o, tr.er, fun j e a q1 q2 => ?_⟩, T.wp_mono (fun p b4 w O4 σ4 H4 r4 => ?_) w⟩
    · obtain ⟨k1, k2⟩ := ho j e q1
      rw [k2] at q2
      exact r3.own j e a k1 q2
    · cases q : p.1 with
      | nx => rw [q] at w; exact ⟨O4, b4, p.2, r4, w⟩
      | ct => rw [q] at w; exact ⟨O4, b4, p.2, r4, w⟩
      | bk => rw [q] at w; exact w O4 σ4 H4 (r1.unbase r4)
      | rt d => rw [q] at w; exact w O4 σ4 H4 (r1.unbase r4)
  · rintro σ2 H2 ⟨O', b', ρ', r', w⟩
    rw [List.drop_length] at w
    exact w O' σ2 H2 (r1.unbase r')
end
end RG
end

section
set_option Elab.async false
set_option linter.all false
set_option maxRecDepth 100000
set_option maxHeartbeats 4000000
/-! Assignments by data. -/
namespace RG
open PySem PySem.Spec PySem.Calls PyProof.Rows L2

section
variable {tb : Tb} {N : List Str} {Φ : Calls} {n : Nat} {X : Cx} {sc : Scope}
theorem mE_noset {a : E} {e : Expr} (h : mE tb N sc a e = true) : (∀ el gs s p, e ≠ .SetComp el gs s p) ∧ ∀ k v gs s p, e ≠ .DictComp k v gs s p := by
  refine ⟨fun el gs s p z => ?_, fun k v gs s p z => ?_⟩
  · subst z; cases a <;> exact nomatch (show false = true from h)
  · subst z; cases a <;> exact nomatch (show false = true from h)
theorem ps_nameE {a : E} {e : Expr} {i : Nat} {x : Str} {px pos : Pos} (G : GoodS tb N Φ n X sc) (hl : locB N sc x i = true) (h : mE tb N sc a e = true) : PS X (.Assign [.Name x px] e pos) (tAsg (RdE (ev Φ a) (isFr a)) (gName i)) := by
  obtain ⟨l1, l2⟩ := G.loc hl
  by_cases hc : comB e = false
  · refine ps_set G.nd l1 l2 (G.e h) ?_ (.inl (G.fn x))
    cases e <;> first | rfl | exact nomatch (show true = false from hc)
  · cases e with
    | ListComp el gs scope cp =>
      have hk : swapsWith (.ListComp el gs scope cp) (some (.Name x px)) pos.line X.env = pure (X.env.blockKind == .function && X.env.kindOf x == some .local && px.line == (Expr.ListComp el gs scope cp).pos.line && !(scope.names.any fun (n, k) => n == x && (k == .local || k == .cell))) := rfl
      cases hB : (X.env.blockKind == .function && X.env.kindOf x == some .local && px.line == (Expr.ListComp el gs scope cp).pos.line && !(scope.names.any fun (n, k) => n == x && (k == .local || k == .cell))) with
      | false =>
        rw [hB] at hk
        exact ps_set G.nd l1 l2 (G.e h) hk (.inl (G.fn x))
      | true =>
        rw [hB] at hk
        have hyl : X.env.scope.names.lookup x = some .local := by
          simp only [Bool.and_eq_true, beq_iff_eq] at hB
          exact hB.1.1.2
        cases a with
        | comp own tg it c elt =>
          unfold mE at h
          split at h
          · rename_i el2 t i2 ifs scope2 cp2 heq
            cases heq
            simp only [Bool.and_eq_true] at h
            obtain ⟨⟨⟨⟨⟨h1, h2⟩, h3⟩, h4⟩, h5⟩, h6⟩ := h
            have g := G.g
            have hr : ∀ (s : Shared) (H : Hp) (C : Addr) (cl : List (Str × Addr)) (fp : List Addr), (X.blk s H scope (compEnvC scope cl C X.env) fp).env.scope = relS scope sc := fun s H C cl fp => by rw [← G.hs]; rfl
            have hset : ∀ y, foldedSetIterable i2 X.env y = pure y := by
              intro y
              cases i2 <;> first | rfl | (cases it <;> first | exact nomatch (show false = true from h4) | (cases t <;> exact nomatch (show false = true from h4)))
            have ht : ∀ (s : Shared) (H : Hp) (C : Addr) (cl : List (Str × Addr)) (fp : List Addr), PTs (X.blk s H scope (compEnvC scope cl C X.env) fp) ifs (RdT (evT Φ c)) := fun s H C cl fp => by
              split at h5
              · cases c <;> first | exact nomatch (show false = true from h5) | exact d_tyes
              · exact pts_one ((snd c).ft _ _ _ (g.blk s H scope _ fp) (hr s H C cl fp) h5)
              · exact nomatch h5
            refine (ps_setLc g.calm G.nd l1 hyl hk ((snd it).fi X sc _ _ g G.hs h4) (by rw [g.hN, G.hs]; exact blkOk_by h1) (g := RdG tg)
              (fun s H C cl fp => d_tg (X := X.blk s H scope (compEnvC scope cl C X.env) fp) g.hN g.nd g.calm (blk_vis (X := X) s H C cl fp) _ _ h2) ht
              (fun s H C cl fp => (snd elt).fe _ _ _ (g.blk s H scope _ fp) (hr s H C cl fp) h6) hset).imp fun D σ H q => ?_
            exact lc_rd h3 q
          · exact nomatch h
        | _ => exact nomatch (show false = true from h)
    | SetComp el gs s p => exact absurd rfl ((mE_noset h).1 el gs s p)
    | DictComp k v gs s p => exact absurd rfl ((mE_noset h).2 k v gs s p)
    | _ => exact absurd rfl hc
theorem x_asg {a : E} {e : Expr} {i : Nat} {own : Bool} {x : Str} {px pos : Pos} (G : GoodS tb N Φ n X sc) (hl : locB N sc x i = true) (h : mE tb N sc a e = true) :
    PS X (.Assign [.Name x px] e pos) (RdX fun ρ => (ev Φ a ρ).bind fun d => if own then (ownOf (isFr a) d).bind fun s => .ret (.nx, ρ.set i s) else .ret (.nx, ρ.set i (.va d))) :=
  (ps_nameE G hl h).imp fun D σ H ⟨S, B0, H0, b0, O, b, ρ, r, w⟩ => RdE.thn r.ctx r.er w fun d b1 v H1 x res c1 er1 w => by
    have r1 := r.ext x
    cases own with
    | false => exact w O _ H1 (r1.setVa res.1 i)
    | true =>
      have w : ((ownOf (isFr a) d).bind fun s => T.ret (Fl.nx, ρ.set i s)).wp b1 (Fin D S B0 H0 b0) := w
      unfold ownOf at w
      split at w
      · rename_i hf
        cases d with
        | list ds =>
          obtain ⟨p, xs, rfl, hp, e1, l⟩ := res.2 hf ds rfl
          have hz : ds.length ≤ 16777216 := by
            cases res.1 with
            | lst _ _ z _ => exact z
          exact w _ _ H1 (r.setOw x hp e1 hz l i)
        | _ => exact w.elim
      · exact w.elim
theorem x_asgT {t : Tg} {a : E} {e : Expr} {ts : List Expr} {k : Nat} {p pos : Pos} (G : GoodS tb N Φ n X sc) (hc : comB e = false) (hn : ∀ vs k p, e ≠ .Tuple vs k p) (ht : mTg N sc t (.Tuple ts k p) = true) (h : mE tb N sc a e = true) :
    PS X (.Assign [.Tuple ts k p] e pos) (RdX fun ρ => (ev Φ a ρ).bind fun d => (asgT t d ρ).bind fun ρ' => .ret (.nx, ρ')) := by
  refine (ps_asg (G.e h) (G.tg ht) ?_ ?_).imp fun D σ H ⟨S, B0, H0, b0, O, b, ρ, r, w⟩ => RdE.thn r.ctx r.er w fun d b1 v H1 x res c1 er1 w => ?_
  · cases e <;> first | rfl | exact nomatch (show true = false from hc)
  · cases e <;> first | rfl | exact absurd rfl (hn _ _ _)
  · have r1 := r.ext x
    refine ⟨S, _, b1, ρ, d, c1, er1, res.1, T.wp_mono (fun ρ2 b2 ⟨l2, w⟩ σ3 tr ho => w O σ3 H1 ⟨r1.c0, ⟨r1.x.keep, r1.x.dom, fun a q => (r1.x.st a q).le l2, Nat.le_trans l2 r1.x.le⟩, r1.o, tr.er, fun j e a q1 q2 => ?_⟩) (T.wp_le (T.wp_bind.mp w))⟩
    obtain ⟨k1, k2⟩ := ho j e q1
    rw [k2] at q2
    exact r1.own j e a k1 q2

/-! ### several names at once -/
def setsV : List (Nat × Bool) → List V → L2.St → L2.St
  | (i, _) :: ts, v :: vs, σ => setsV ts vs (σ.set i (some v))
  | _, _, σ => σ
theorem SR.setPs {S : Ads} {B0 : Ads} {H0 : Hp} {b00 b : Nat} {P : Rho → Nat → Prop} : ∀ {ts : List (Nat × Bool)} {vs : List V} {ss : List Sl} {fs : List Bool} {O B : Ads} {b0 : Nat} {H H' : Hp} {σ : L2.St} {ρ : Rho},
    SR S B0 H0 b00 O b0 σ H ρ → SlL S b B b0 H H' vs ss fs → (B = fun a => B0 a ∨ O a) → (RG.setP ts fs ss ρ).wp b P → vs.length = ts.length ∧ ∃ ρ' O', P ρ' b ∧ SR S B0 H0 b00 O' b (setsV ts vs σ) H' ρ'
  | ts, _, _, _, O, B, b0, H, H', σ, ρ, r, .nil x, hB, w => by
    cases ts with
    | nil => exact ⟨rfl, ρ, O, w, r.ext x⟩
    | cons t _ =>
      obtain ⟨i, own⟩ := t
      cases own <;> exact w.elim
  | ts, _, _, _, O, B, b0, H, H', σ, ρ, r, .cons (v := v) x hd nf l, hB, w => by
    subst hB
    cases ts with
    | nil => exact w.elim
    | cons t ts =>
      obtain ⟨i, own⟩ := t
      cases hd with
      | st hd => cases own <;> exact w.elim
      | va hd =>
        cases own with
        | true =>
          rename_i d
          have w := T.wp_bind.mp (show ((ownOf _ d).bind fun s => RG.setP ts _ _ (ρ.set i s)).wp b P from w)
          unfold ownOf at w
          split at w
          · rename_i hf
            split at w
            · exact absurd rfl (nf hf _)
            · exact w.elim
          · exact w.elim
        | false =>
          obtain ⟨h1, h2⟩ := SR.setPs ((r.ext x).setVa hd i) l rfl w
          exact ⟨by rw [List.length_cons, List.length_cons, h1], h2⟩
  | ts, _, _, _, O, B, b0, H, H', σ, ρ, r, .new (p := p) x hp e z l rest, hB, w => by
    subst hB
    cases ts with
    | nil => exact w.elim
    | cons t ts =>
      obtain ⟨i, own⟩ := t
      cases own with
      | true =>
        obtain ⟨h1, h2⟩ := SR.setPs (r.setOw x hp e z l i) rest or_ass w
        exact ⟨by rw [List.length_cons, List.length_cons, h1], h2⟩
      | false =>
        have np := r.ctx.nb hp
        obtain ⟨h1, h2⟩ := SR.setPs ((r.ext x).setVa (.lst e np z (l.unbar fun a => .inl)) i) (rest.unbar fun a => .inl) rfl w
        exact ⟨by rw [List.length_cons, List.length_cons, h1], h2⟩
end
end RG
end

section
set_option Elab.async false
set_option linter.all false
set_option maxRecDepth 100000
set_option maxHeartbeats 4000000
/-! Assignments of several names, into lists; methods that change a list. -/
namespace RG
open PySem PySem.Spec PySem.Calls PyProof.Rows L2

theorem noStar_any {vs : List Expr} (h : vs.all noStar = true) : vs.any (fun | .Starred .. => true | _ => false) = false := by
  rw [List.any_eq_false]
  intro x hx
  have := List.all_eq_true.mp h x hx
  cases x <;> first | exact fun q => nomatch (show false = true from q) | exact fun q => nomatch (show false = true from this)
theorem sw_eq {ts vs : List Expr} {k k2 : Nat} {p p2 : Pos} {env : Env} (hk : env.scope.kind = .function) (hf : fewB ts vs = true) :
    swappedStores [.Tuple ts k p] (.Tuple vs k2 p2) env = (if ((locNames env.scope ((ts.head?.map (·.pos.line)).getD 0) ts).length != ts.length || (locNames env.scope ((ts.head?.map (·.pos.line)).getD 0) ts).eraseDups.length != (locNames env.scope ((ts.head?.map (·.pos.line)).getD 0) ts).length) = true then pure none else if vs.all (foldedForSure 8) = true then pure none else if vs.all (constantsAlone 8) = true then unsupported "assign.tuple-of-constant-expressions:order-of-the-stores" else pure (some (locNames env.scope ((ts.head?.map (·.pos.line)).getD 0) ts))) := by
  unfold fewB at hf
  simp only [Bool.and_eq_true] at hf
  obtain ⟨⟨h1, h2⟩, h3⟩ := hf
  have h3 := noStar_any h3
  unfold swappedStores
  have hb : env.blockKind = .function := blockKind_fn hk
  have c1 : (!(ts.length == 2 || ts.length == 3) || vs.length != ts.length || env.blockKind != .function) = false := by
    rw [h1, hb]
    simp only [beq_iff_eq] at h2
    simp [h2]
  show (if (!(ts.length == 2 || ts.length == 3) || vs.length != ts.length || env.blockKind != .function) = true then _ else _) = _
  rw [c1, if_neg (by decide)]
  show (if (vs.any fun | .Starred .. => true | _ => false) = true then _ else _) = _
  rw [h3, if_neg (by decide)]
  rfl

def gsNames : List (Nat × Bool) → TGs
  | [] => gNil
  | (i, _) :: ts => gCons (gName i) (gsNames ts)
theorem gsNames_of : ∀ {ts : List (Nat × Bool)} {vs : List V} {σ : L2.St} {H : Hp} {Q : L2.St → Hp → Prop}, vs.length = ts.length → Q (setsV ts vs σ) H → gsNames ts vs σ H Q
  | [], [], σ, H, Q, _, q => ⟨rfl, q⟩
  | [], _ :: _, σ, H, Q, e, q => by simp at e
  | _ :: _, [], σ, H, Q, e, q => by simp at e
  | (i, o) :: ts, v :: vs, σ, H, Q, e, q => ⟨v, vs, rfl, gsNames_of (by simpa using e) q⟩
section
variable {tb : Tb} {N : List Str} {Φ : Calls} {n : Nat} {X : Cx} {sc : Scope}
theorem names_star : ∀ {ts : List (Nat × Bool)} {es : List Expr}, namesB N sc ts es = true → es.length = ts.length ∧ ∀ e ∈ es, noStar e = true
  | [], [], _ => ⟨rfl, fun e h => absurd h (by simp)⟩
  | [], _ :: _, h => nomatch (show false = true from h)
  | (_, _) :: _, [], h => nomatch (show false = true from h)
  | (i, o) :: ts, e :: es, h => by
    cases e with
    | Name x p =>
      have h : (locB N sc x i && namesB N sc ts es) = true := h
      rw [Bool.and_eq_true] at h
      obtain ⟨h1, h2⟩ := names_star h.2
      refine ⟨by rw [List.length_cons, List.length_cons, h1], fun e he => ?_⟩
      rcases List.mem_cons.mp he with z | z
      · rw [z]; rfl
      · exact h2 e z
    | _ => exact nomatch (show false = true from h)
theorem pgs_names (G : GoodS tb N Φ n X sc) : ∀ {ts : List (Nat × Bool)} {es : List Expr}, namesB N sc ts es = true → PGs X es (gsNames ts)
  | [], [], _ => pgs_nil
  | [], _ :: _, h => nomatch (show false = true from h)
  | (_, _) :: _, [], h => nomatch (show false = true from h)
  | (i, o) :: ts, e :: es, h => by
    cases e with
    | Name x p =>
      have h : (locB N sc x i && namesB N sc ts es) = true := h
      rw [Bool.and_eq_true] at h
      obtain ⟨l1, l2⟩ := G.loc h.1
      exact pgs_cons (pg_name G.nd l1 l2 (.inl (G.fn x))) (pgs_names G h.2) (by rw [assign1 rfl]; rfl)
    | _ => exact nomatch (show false = true from h)
/-- names at their places, all plain locals -/
theorem loc2 {l : Nat} {x y : Str} {px py : Pos} (h : (locNames sc l [.Name x px, .Name y py]).length = 2) : sc.names.lookup x = some .local ∧ sc.names.lookup y = some .local ∧ locNames sc l [.Name x px, .Name y py] = [x, y] := by
  unfold locNames at h ⊢
  simp only [List.filterMap_cons, List.filterMap_nil] at h ⊢
  by_cases c1 : (sc.names.lookup x == some .local && px.line == l) = true <;> by_cases c2 : (sc.names.lookup y == some .local && py.line == l) = true
  · rw [if_pos c1, if_pos c2]
    simp only [Bool.and_eq_true, beq_iff_eq] at c1 c2
    exact ⟨c1.1, c2.1, rfl⟩
  · rw [if_pos c1, if_neg c2] at h; exact absurd (show 1 = 2 from h) (by decide)
  · rw [if_neg c1, if_pos c2] at h; exact absurd (show 1 = 2 from h) (by decide)
  · rw [if_neg c1, if_neg c2] at h; exact absurd h (by decide)
theorem loc3 {l : Nat} {x y z : Str} {px py pz : Pos} (h : (locNames sc l [.Name x px, .Name y py, .Name z pz]).length = 3) : sc.names.lookup x = some .local ∧ sc.names.lookup y = some .local ∧ sc.names.lookup z = some .local ∧ locNames sc l [.Name x px, .Name y py, .Name z pz] = [x, y, z] := by
  unfold locNames at h ⊢
  simp only [List.filterMap_cons, List.filterMap_nil] at h ⊢
  by_cases c1 : (sc.names.lookup x == some .local && px.line == l) = true <;> by_cases c2 : (sc.names.lookup y == some .local && py.line == l) = true <;> by_cases c3 : (sc.names.lookup z == some .local && pz.line == l) = true
  · rw [if_pos c1, if_pos c2, if_pos c3]
    simp only [Bool.and_eq_true, beq_iff_eq] at c1 c2 c3
    exact ⟨c1.1, c2.1, c3.1, rfl⟩
  all_goals
    simp only [c1, c2, c3, if_true, if_false, Bool.false_eq_true] at h
    simp at h
theorem name_of {ts : List (Nat × Bool)} {i : Nat} {o : Bool} {e : Expr} {es : List Expr} (h : namesB N sc ((i, o) :: ts) (e :: es) = true) : ∃ x p, e = .Name x p ∧ locB N sc x i = true ∧ namesB N sc ts es = true := by
  cases e with
  | Name x p =>
    have h : (locB N sc x i && namesB N sc ts es) = true := h
    rw [Bool.and_eq_true] at h
    exact ⟨x, p, rfl, h.1, h.2⟩
  | _ => exact nomatch (show false = true from h)
theorem x_asgP {tis : List (Nat × Bool)} {a : E} {ts vs : List Expr} {k k2 : Nat} {p p2 pos : Pos} (G : GoodS tb N Φ n X sc) (hn : namesB N sc tis ts = true) (nd : (tis.map (·.1)).Nodup) (ha : mA tb N sc a vs = true) (hsw : (swB sc ts vs || nsB sc ts vs) = true) :
    PS X (.Assign [.Tuple ts k p] (.Tuple vs k2 p2) pos) (RdX fun ρ => (evC Φ a ρ).bind fun xs => (RG.setP tis (frs a) xs ρ).bind fun ρ' => .ret (.nx, ρ')) := by
  have hc := (snd a).fc (Φ := Φ) (n := n) X sc vs G.g G.hs ha
  have hlen := (names_star hn).1
  have hk := G.kind
  rw [Bool.or_eq_true] at hsw
  rcases hsw with hsw | hsw
  · unfold swB at hsw
    simp only [Bool.and_eq_true] at hsw
    obtain ⟨⟨⟨⟨h0, h1⟩, h2⟩, h3⟩, h4⟩ := hsw
    have he := sw_eq (k := k) (k2 := k2) (p := p) (p2 := p2) hk h0
    rw [G.hs] at he
    rw [if_neg (by simp only [beq_iff_eq] at h1 h2; simp [h1, h2]), if_neg (by simpa using h3), if_neg (by simpa using h4)] at he
    have fin : ∀ {D : Ends} {σ : L2.St} {H : Hp}, (RdX fun ρ => (evC Φ a ρ).bind fun xs => (RG.setP tis (frs a) xs ρ).bind fun ρ' => .ret (.nx, ρ')) D σ H → RdC (evC Φ a) (frs a) σ H fun vs H1 => vs.length = tis.length ∧ D.nx (setsV tis vs σ) H1 := fun {D σ H} ⟨S, B0, H0, b0, O, b, ρ, r, w⟩ =>
      ⟨S, _, b, ρ, r.ctx, r.er, T.wp_mono (fun ss b1 w vs H1 x l => by
        obtain ⟨q1, ρ', O', q2, q3⟩ := SR.setPs r l rfl (T.wp_bind.mp w)
        exact ⟨q1, q2 O' _ H1 q3⟩) (T.wp_bind.mp w)⟩
    have hts : ts.length = 2 ∨ ts.length = 3 := by
      unfold fewB at h0
      simp only [Bool.and_eq_true, Bool.or_eq_true, beq_iff_eq] at h0
      exact h0.1.1
    have hvs : vs.length = ts.length := by
      unfold fewB at h0
      simp only [Bool.and_eq_true, beq_iff_eq] at h0
      exact h0.1.2
    rcases hts with hts | hts
    · match ts, hts with
      | [e1, e2], _ =>
        match vs, hvs with
        | [v1, v2], _ =>
          match tis, hlen with
          | [(i, o1), (j, o2)], _ =>
            obtain ⟨x, px, rfl, l1, hn⟩ := name_of hn
            obtain ⟨y, py, rfl, l2, hn⟩ := name_of hn
            obtain ⟨q1, q2, q3⟩ := loc2 (l := (([Expr.Name x px, Expr.Name y py].head?.map (·.pos.line)).getD 0)) (sc := sc) (x := x) (y := y) (px := px) (py := py) (by simpa using h1)
            rw [q3] at he
            have hij : i ≠ j := by simp only [List.map_cons, List.map_nil, List.nodup_cons, List.mem_singleton] at nd; exact nd.1
            refine (ps_par G.g.calm G.nd (G.loc l1).1 (G.loc l2).1 hij (by rw [G.hs]; exact q1) (by rw [G.hs]; exact q2) hc he rfl).imp fun D σ H q => ?_
            obtain ⟨S, B, b, ρ, c, er, w⟩ := fin q
            refine ⟨S, B, b, ρ, c, er, T.wp_mono (fun ss b1 w vs H1 x l => ?_) w⟩
            obtain ⟨z1, z2⟩ := w vs H1 x l
            match vs, z1 with
            | [u1, u2], _ => exact ⟨u1, u2, rfl, z2⟩
    · match ts, hts with
      | [e1, e2, e3], _ =>
        match vs, hvs with
        | [v1, v2, v3], _ =>
          match tis, hlen with
          | [(i, o1), (j, o2), (m, o3)], _ =>
            obtain ⟨x, px, rfl, l1, hn⟩ := name_of hn
            obtain ⟨y, py, rfl, l2, hn⟩ := name_of hn
            obtain ⟨z, pz, rfl, l3, hn⟩ := name_of hn
            obtain ⟨q1, q2, q3, q4⟩ := loc3 (l := (([Expr.Name x px, Expr.Name y py, Expr.Name z pz].head?.map (·.pos.line)).getD 0)) (sc := sc) (x := x) (y := y) (z := z) (px := px) (py := py) (pz := pz) (by simpa using h1)
            rw [q4] at he
            simp only [List.map_cons, List.map_nil, List.nodup_cons, List.mem_cons, List.not_mem_nil, or_false, not_or] at nd
            refine (ps_par3 G.g.calm G.nd (G.loc l1).1 (G.loc l2).1 (G.loc l3).1 nd.1.1 nd.1.2 nd.2.1 (by rw [G.hs]; exact q1) (by rw [G.hs]; exact q2) (by rw [G.hs]; exact q3) hc he rfl).imp fun D σ H q => ?_
            obtain ⟨S, B, b, ρ, c, er, w⟩ := fin q
            refine ⟨S, B, b, ρ, c, er, T.wp_mono (fun ss b1 w vs H1 x l => ?_) w⟩
            obtain ⟨z1, z2⟩ := w vs H1 x l
            match vs, z1 with
            | [u1, u2, u3], _ => exact ⟨u1, u2, u3, rfl, z2⟩
  · unfold nsB at hsw
    simp only [Bool.and_eq_true] at hsw
    obtain ⟨h0, h1⟩ := hsw
    have he := sw_eq (k := k) (k2 := k2) (p := p) (p2 := p2) hk h0
    rw [G.hs] at he
    have he : swappedStores [.Tuple ts k p] (.Tuple vs k2 p2) X.env = pure none := by
      rw [he]
      by_cases c1 : ((locNames sc ((ts.head?.map (·.pos.line)).getD 0) ts).length != ts.length || (locNames sc ((ts.head?.map (·.pos.line)).getD 0) ts).eraseDups.length != (locNames sc ((ts.head?.map (·.pos.line)).getD 0) ts).length) = true
      · rw [if_pos c1]
      · rw [if_neg c1]
        rw [Bool.or_eq_true] at h1
        rw [if_pos (h1.resolve_left c1)]
    have hts : ts.length ≤ 3 := by
      unfold fewB at h0
      simp only [Bool.and_eq_true, Bool.or_eq_true, beq_iff_eq] at h0
      omega
    obtain ⟨a1, a2⟩ := assign_plain (env := X.env) (names_star hn).2
    refine (ps_asg (pe_tupN hc) (pg_tup G.g.calm (pgs_names G hn) (hn := a1) (hst := a2)) rfl he).imp fun D σ H ⟨S, B0, H0, b0, O, b, ρ, r, w⟩ => ?_
    refine ⟨S, _, b, ρ, r.ctx, r.er, T.wp_mono (fun ss b1 w vs H1 x l => ?_) (T.wp_bind.mp w)⟩
    obtain ⟨q1, ρ', O', q2, q3⟩ := SR.setPs r l rfl (T.wp_bind.mp w)
    refine ⟨by rw [line_eq]; omega, fun p o hp ho => ⟨p, vs, rfl, .inl (.inr ⟨o, upd_same⟩), by rw [hlen]; exact q1, gsNames_of q1 (q2 O' _ _ (q3.ext (.alloc hp)))⟩⟩
end
end RG
end

section
set_option Elab.async false
set_option linter.all false
set_option maxRecDepth 100000
set_option maxHeartbeats 4000000
/-! Lists that are changed; every statement by data. -/
namespace RG
open PySem PySem.Spec PySem.Calls PyProof.Rows L2

section
variable {tb : Tb} {N : List Str} {Φ : Calls} {n : Nat} {X : Cx} {sc : Scope}
theorem op_aug {op : Operator} : PIp X op (rOp false (augOp op)) := by
  intro pins s σ H x y v u Q I rx ry ⟨S, B, b, dx, dy, c, hx, hy, w⟩
  unfold augOp at w
  split at w
  · obtain rfl := hx.int
    obtain rfl := hy.int
    exact iop_add pins s σ H _ _ v u Q I rx ry ⟨_, _, rfl, rfl, w _ _ .refl .int⟩
  · obtain rfl := hx.int
    obtain rfl := hy.int
    exact iop_sub pins s σ H _ _ v u Q I rx ry ⟨_, _, rfl, rfl, w _ _ .refl .int⟩
  · obtain rfl := hx.int
    obtain rfl := hy.int
    obtain ⟨h1, w⟩ := wp_chk w
    rename_i i j w0
    have h1 : CMul i j := by
      rw [Bool.or_eq_true] at h1
      rcases h1 with h1 | h1
      · have h1 := of_decide_eq_true h1
        exact .inl ⟨by omega, by omega⟩
      · have h1 := of_decide_eq_true h1
        exact .inr ⟨by omega, by omega⟩
    exact iop_mul pins s σ H _ _ v u Q I rx ry ⟨_, _, rfl, rfl, h1, w _ _ .refl .int⟩
  · exact w.elim
theorem x_aug {a : E} {e : Expr} {i : Nat} {x : Str} {op : Operator} {px pos : Pos} (G : GoodS tb N Φ n X sc) (hl : locB N sc x i = true) (h : mE tb N sc a e = true) :
    PS X (.AugAssign (.Name x px) op e pos) (RdX fun ρ => (getV ρ i).bind fun x => (rdOf a (ev Φ a ρ) ρ).bind fun y => (augOp op x y).bind fun z => .ret (.nx, ρ.set i (.va z))) := by
  obtain ⟨l1, l2⟩ := G.loc hl
  refine (ps_aug G.nd l1 l2 (G.r h) op_aug (.inl (G.fn x))).imp fun D σ H ⟨S, B0, H0, b0, O, b, ρ, r, w⟩ => ?_
  obtain ⟨d, hd, w⟩ := getV_wp (T.wp_bind.mp w)
  obtain ⟨v, q1, q2⟩ := r.er.va i d hd
  refine ⟨v, q1, RdR.thn (fa := fun ρ => rdOf a (ev Φ a ρ) ρ) r.ctx r.er w fun d2 b1 v2 H1 x1 h1 c1 er1 w => ⟨S, _, b1, d, d2, c1, .of (q2.ext r.ctx x1), h1, T.wp_mono (fun z b2 w v3 H2 x2 res => ?_) (T.wp_bind.mp w)⟩⟩
  exact w O _ H2 (((r.ext x1).ext x2).setVa res.1 i)
theorem getO_wp {ρ : Rho} {i k : Nat} {P : List PyData → Nat → Prop} (w : (getO ρ i).wp k P) : ∃ ds, ρ[i]? = some (.ow (.list ds)) ∧ P ds k := by
  unfold getO at w
  split at w
  · exact ⟨_, by assumption, w⟩
  · exact w.elim
theorem x_set {a ix : E} {e ie : Expr} {i : Nat} {x : Str} {px p2 pos : Pos} (G : GoodS tb N Φ n X sc) (hv : visB N sc x i = true) (hns : noSlice ie = true) (hc : comB e = false) (hi : mE tb N sc ix ie = true) (h : mE tb N sc a e = true) :
    PS X (.Assign [.Subscript (.Name x px) ie p2] e pos) (RdX fun ρ => (ev Φ a ρ).bind fun d => (getO ρ i).bind fun xs => (rdOf ix (ev Φ ix ρ) ρ).bind fun k => (setAt xs d k).bind fun ys => .ret (.nx, ρ.set i (.ow (.list ys)))) := by
  obtain ⟨h1, h2, h3, h4⟩ := visB_of G.g G.hs hv
  refine (ps_asg (G.e h) (pg_sub (pe_var h1 h2 h3 h4) (G.r hi) set_list (by intro v; cases ie <;> first | rfl | exact nomatch (show false = true from hns))) ?_ ?_).imp fun D σ H ⟨S, B0, H0, b0, O, b, ρ, r, w⟩ => RdE.thn r.ctx r.er w fun d b1 v H1 x1 res c1 er1 w => ?_
  · cases e <;> first | rfl | exact nomatch (show true = false from hc)
  · rfl
  · have r1 := r.ext x1
    obtain ⟨ds, hd, w⟩ := getO_wp (T.wp_bind.mp w)
    obtain ⟨p, q1, q2, q3, q4⟩ := r1.er.ow i _ hd
    refine ⟨_, q1, RdR.thn (fa := fun ρ => rdOf ix (ev Φ ix ρ) ρ) c1 er1 w fun dk b2 vk H2 x2 hk c2 er2 w => ?_⟩
    have r2 := r1.ext x2
    have q4 := q4.ext r1.ctx x2
    obtain ⟨p', xs, ep, e1, z1, l1⟩ := q4.list
    cases ep
    have w := T.wp_bind.mp w
    cases dk with
    | int k =>
      obtain rfl := hk.int
      have w : (match ixN ds.length k with | some j => T.ret (ds.set j d) | none => .fail).wp b2 _ := w
      split at w
      · rename_i j hj
        refine ⟨p, xs, k, j, rfl, rfl, e1, by rw [l1.length]; exact hj, w O _ _ (r2.upd hd q1 (by rw [List.length_set]; exact z1) (l1.set (res.1.ext r1.ctx x2) j))⟩
      · exact w.elim
    | _ => exact w.elim
theorem x_app {a : E} {e : Expr} {i : Nat} {x : Str} {px apos cpos pos : Pos} (G : GoodS tb N Φ n X sc) (hl : (apos.endLine == cpos.line) = true) (hv : visB N sc x i = true) (hst : noStar e = true) (h : mE tb N sc a e = true) :
    PS X (.Expr (.Call (.Attribute (.Name x px) "append" apos) [e] [] cpos) pos) (RdX fun ρ => (getO ρ i).bind fun xs => (ev Φ a ρ).bind fun d => .chk (decide (xs.length < 16777216)) (.ret (.nx, ρ.set i (.ow (.list (xs ++ [d])))))) := by
  obtain ⟨h1, h2, h3, h4⟩ := visB_of G.g G.hs hv
  have hs : starEach [e] X.env = (false, eval e X.env) :: starEach [] X.env := star1 hst
  refine (ps_expr (pe_metD (pe_var h1 h2 h3 h4) (pa_cons (G.e h) pa_nil hs) rfl (by rw [hs]; rfl) hl hs rfl)).imp fun D σ H ⟨S, B0, H0, b0, O, b, ρ, r, w⟩ => ?_
  obtain ⟨ds, hd, w⟩ := getO_wp (T.wp_bind.mp w)
  obtain ⟨p, q1, q2, q3, q4⟩ := r.er.ow i _ hd
  obtain ⟨p', xs0, ep, e0, z0, l0⟩ := q4.list
  cases ep
  refine ⟨_, q1, "list", "list.append", _, F.plainAttrs_list, F.slot_list_append, rfl, .inl ⟨rfl, xs0, e0⟩, mt_append, RdE.thn r.ctx r.er w fun d b1 v H1 x1 res c1 er1 w => ?_⟩
  have r1 := r.ext x1
  obtain ⟨hz, w⟩ := wp_chk w
  have hz := of_decide_eq_true hz
  have e1 : H1 p = some (.lst xs0) := x1.keep _ _ e0 q3
  have q4 := q4.ext r.ctx x1
  obtain ⟨p', xs1, ep, e1', z1, l1⟩ := q4.list
  cases ep
  rw [e1] at e1'
  cases e1'
  exact ⟨p, xs0, v, rfl, rfl, e1, by rw [line_eq, l1.length]; exact hz, w O _ _ (r1.upd hd q1 (by rw [List.length_append]; exact hz) (l1.append (.cons res.1 .nil)))⟩

theorem x_exe {a : E} {e : Expr} {pos : Pos} (G : GoodS tb N Φ n X sc) (hc : comB e = false) (h : mE tb N sc a e = true) : PS X (.Expr e pos) (RdX fun ρ => (ev Φ a ρ).bind fun _ => .ret (.nx, ρ)) := by
  refine (ps_expr (G.e h) ?_).imp fun D σ H ⟨S, B0, H0, b0, O, b, ρ, r, w⟩ => RdE.thn r.ctx r.er w fun d b1 v H1 x1 res c1 er1 w => w O σ H1 (r.ext x1)
  cases e <;> first | rfl | exact nomatch (show true = false from hc)

/-! ### every statement -/
theorem skip_dem {i : Nat} {sts : List Stmt} {f : Rho → T (Fl × Rho)} (h : PSs X sts (RdX f)) : PSs X sts (RdX fun ρ => (ex Φ (.dem i) ρ).bind fun p => match p.1 with | .nx => f p.2 | q => .ret (q, p.2)) :=
  h.imp fun D σ H ⟨S, B0, H0, b0, O, b, ρ, r, w⟩ => by
    have w : ((match ρ[i]? with | some (.ow d) => T.ret (Fl.nx, ρ.set i (.va d)) | _ => .ret (.nx, ρ)).bind fun p => match p.1 with | .nx => f p.2 | q => .ret (q, p.2)).wp b (Fin D S B0 H0 b0) := w
    split at w
    · rename_i d hd
      obtain ⟨O', r'⟩ := r.dem hd
      exact ⟨S, B0, H0, b0, O', b, _, r', w⟩
    · exact ⟨S, B0, H0, b0, O, b, ρ, r, w⟩
theorem skip_kil {is : List Nat} {sts : List Stmt} {f : Rho → T (Fl × Rho)} (h : PSs X sts (RdX f)) : PSs X sts (RdX fun ρ => (ex Φ (.kil is) ρ).bind fun p => match p.1 with | .nx => f p.2 | q => .ret (q, p.2)) :=
  h.imp fun D σ H ⟨S, B0, H0, b0, O, b, ρ, r, w⟩ => ⟨S, B0, H0, b0, O, b, wipeR ρ is, r.kil is, w⟩
structure SndS (tb : Tb) (N : List Str) (Φ : Calls) (n : Nat) (a : Sx) : Prop where
  f1 : ∀ (X : Cx) (sc : Scope) (x : Stmt), GoodS tb N Φ n X sc → mS tb N sc a x = true → PS X x (RdX (ex Φ a))
  f2 : ∀ (X : Cx) (sc : Scope) (xs : List Stmt), GoodS tb N Φ n X sc → mSs tb N sc a xs = true → PSs X xs (RdX (ex Φ a))
theorem sndS (a : Sx) : SndS tb N Φ n a := by
  induction a
  all_goals constructor
  all_goals first
    | exact fun X sc x g h => nomatch (show false = true from h)
    | skip
  case nil.f2 =>
    intro X sc xs G h
    cases xs with
    | nil => exact x_nil
    | cons _ _ => exact nomatch (show false = true from h)
  case cons.f2 s r ihs ihr =>
    intro X sc xs G h
    cases s with
    | dem i => exact skip_dem (ihr.f2 X sc xs G h)
    | kil i => exact skip_kil (ihr.f2 X sc xs G h)
    | _ =>
      cases xs with
      | nil => exact nomatch (show false = true from h)
      | cons t ts =>
        first
          | exact nomatch (show false = true from h)
          | (have h : (mS tb N sc _ t && mSs tb N sc r ts) = true := h
             rw [Bool.and_eq_true] at h
             exact x_cons (ihs.f1 X sc t G h.1) (ihr.f2 X sc ts G h.2))
  case asg.f1 i own e =>
    intro X sc x G h
    unfold mS at h
    split at h
    · rw [Bool.and_eq_true] at h
      exact x_asg G h.1 h.2
    · exact nomatch h
  case asgT.f1 tg e =>
    intro X sc x G h
    unfold mS at h
    split at h
    · simp only [Bool.and_eq_true] at h
      obtain ⟨⟨⟨h1, h2⟩, h3⟩, h4⟩ := h
      exact x_asgT G (by simpa using h1) (fun vs k p z => by subst z; exact nomatch (show false = true from h2)) h3 h4
    · exact nomatch h
  case asgP.f1 ts es =>
    intro X sc x G h
    unfold mS at h
    split at h
    · simp only [Bool.and_eq_true] at h
      obtain ⟨⟨⟨h1, h2⟩, h3⟩, h4⟩ := h
      exact x_asgP G h1 (of_decide_eq_true h2) h3 h4
    · exact nomatch h
  case set.f1 i ix e =>
    intro X sc x G h
    unfold mS at h
    split at h
    · simp only [Bool.and_eq_true] at h
      obtain ⟨⟨⟨⟨h1, h2⟩, h3⟩, h4⟩, h5⟩ := h
      exact x_set G h1 h2 (by simpa using h3) h4 h5
    · exact nomatch h
  case aug.f1 i op e =>
    intro X sc x G h
    unfold mS at h
    split at h
    · simp only [Bool.and_eq_true] at h
      obtain ⟨⟨⟨h1, h2⟩, h3⟩, h4⟩ := h
      obtain rfl := eq_of_beq h1
      exact x_aug G h2 h4
    · exact nomatch h
  case app.f1 i e =>
    intro X sc x G h
    unfold mS at h
    split at h
    · simp only [Bool.and_eq_true] at h
      obtain ⟨⟨⟨⟨h1, h2⟩, h3⟩, h4⟩, h5⟩ := h
      obtain rfl := eq_of_beq h1
      exact x_app G h2 h3 h4 h5
    · exact nomatch h
  case exe.f1 e =>
    intro X sc x G h
    unfold mS at h
    split at h
    · rw [Bool.and_eq_true] at h
      exact x_exe G (by simpa using h.1) h.2
    · exact nomatch h
  case ite.f1 c a b iha ihb =>
    intro X sc x G h
    unfold mS at h
    split at h
    · simp only [Bool.and_eq_true] at h
      exact x_ite G h.1.1 (iha.f2 X sc _ G h.1.2) (ihb.f2 X sc _ G h.2)
    · exact nomatch h
  case whl.f1 c b ihb =>
    intro X sc x G h
    unfold mS at h
    split at h
    · simp only [Bool.and_eq_true] at h
      exact x_whl G h.1 (ihb.f2 X sc _ G h.2)
    · exact nomatch h
  case for_.f1 tg it b ihb =>
    intro X sc x G h
    unfold mS at h
    split at h
    · simp only [Bool.and_eq_true] at h
      exact x_for G h.1.1 h.1.2 (ihb.f2 X sc _ G h.2)
    · exact nomatch h
  case ret.f1 e =>
    intro X sc x G h
    unfold mS at h
    split at h
    · exact x_ret G h
    · exact nomatch h
  case retN.f1 =>
    intro X sc x G h
    unfold mS at h
    split at h
    · exact x_retN
    · exact nomatch h
  case brk.f1 =>
    intro X sc x G h
    unfold mS at h
    split at h
    · exact x_brk
    · exact nomatch h
  case cnt.f1 =>
    intro X sc x G h
    unfold mS at h
    split at h
    · exact x_cnt
    · exact nomatch h
  case pas.f1 =>
    intro X sc x G h
    unfold mS at h
    split at h
    · exact x_pas
    · exact nomatch h
  case rai.f1 =>
    intro X sc x G h
    exact x_rai
end
end RG
end

section
set_option Elab.async false
set_option linter.all false
set_option maxRecDepth 100000
set_option maxHeartbeats 4000000
/-! Defs by data. -/
namespace RG
open PySem PySem.Spec PySem.Calls PyProof.Rows L2

section
variable {P : Program} {w : World} {K : PySem.W.Frag} {mg : Str → Option Value} {base : Heap}
/-- what the defs of a table find around them, calls up to depth k -/
structure Around0 (P : Program) (w : World) (K : PySem.W.Frag) (mg : Str → Option Value) (base : Heap) (tb : Tb) (Φ : Calls) (k : Nat) : Prop where
  gs : ∀ (x : Str) (k : Int), tb.gs.contains (x, k) = true → ∃ u, mg x = some u ∧ RelV (.int k) u
  bs : ∀ (x : Str), tb.bs.contains x = true → mg x = none
  fs : ∀ (f : Str), tb.fs.contains f = true → ∃ a fd ps, mg f = some (.ref a) ∧ PySem.W.keepIn K (.ref a) = true ∧ Binds K fd ps [] ∧ FnG P w K mg base k a fd ps (Φ f) ∧ ∀ ss, ss.length ≠ ps.length → Φ f ss = .fail
def fnScB (N ps : List Str) (sc : Scope) : Bool :=
  (match sc.kind with | .function => true | _ => false) && !sc.isCoroutine && !sc.isGenerator && decide N.Nodup && (N.take ps.length == ps) && ps.all (fun x => sc.names.lookup x == some .local || sc.names.lookup x == some .cell) && sc.names.all fun y => y.2 != .free
theorem fnScB_ok {N ps : List Str} {sc : Scope} (h : fnScB N ps sc = true) : FnScope N ps sc := by
  unfold fnScB at h
  simp only [Bool.and_eq_true, List.all_eq_true, decide_eq_true_eq, Bool.not_eq_true', Bool.or_eq_true, beq_iff_eq, bne_iff_ne] at h
  obtain ⟨⟨⟨⟨⟨⟨h1, h2⟩, h3⟩, h4⟩, h5⟩, h6⟩, h7⟩ := h
  refine ⟨?_, h2, h3, h4, h5, h6, h7⟩
  split at h1
  · assumption
  · cases h1
/-- the entry of a def -/
theorem sr_start {S B : Ads} {b : Nat} {H : Hp} {vs : List V} {ss : List Sl} {F : Fd} (c : Ctx S B H) (h : SlDL S B b H vs ss) : SR S B H b (fun _ => False) b (L2.start F.N vs) H (start F ss) := by
  have hl := h.length
  have lt : ∀ {i : Nat} {s : Sl}, (start F ss)[i]? = some s → s ≠ Sl.no → i < ss.length := fun {i s} e hs => by
    unfold start at e
    by_cases hi : i < ss.length
    · exact hi
    · rw [List.getElem?_append_right (by omega), List.getElem?_replicate] at e
      split at e
      · cases e; exact absurd rfl hs
      · cases e
  have at1 : ∀ {i : Nat}, i < ss.length → (start F ss)[i]? = ss[i]? ∧ (L2.start F.N vs)[i]? = (vs.map some)[i]? := fun {i} hi => by
    unfold start L2.start
    exact ⟨List.getElem?_append_left hi, List.getElem?_append_left (by rw [List.length_map]; omega)⟩
  have get : ∀ {vs : List V} {ss : List Sl} {i : Nat} {s : Sl}, SlDL S B b H vs ss → ss[i]? = some s → ∃ v, vs[i]? = some v ∧ SlD S B b H v s := by
    intro vs ss i s h
    induction h generalizing i with
    | nil => intro e; simp at e
    | cons a r ih =>
      cases i with
      | zero => intro e; simp at e; subst e; exact ⟨_, rfl, a⟩
      | succ i => intro e; obtain ⟨v, h1, h2⟩ := ih (i := i) (by simpa using e); exact ⟨v, by simpa using h1, h2⟩
  have slot : ∀ {i : Nat} {s : Sl}, (start F ss)[i]? = some s → s ≠ Sl.no → ∃ v, (L2.start F.N vs)[i]? = some (some v) ∧ SlD S B b H v s := fun {i s} e hs => by
    have hi := lt e hs
    obtain ⟨q1, q2⟩ := at1 hi
    rw [q1] at e
    obtain ⟨v, h1, h2⟩ := get h e
    exact ⟨v, by rw [q2, List.getElem?_map, h1]; rfl, h2⟩
  have noow : ∀ (i : Nat) (d : PyData), (start F ss)[i]? ≠ some (Sl.ow d) := fun i d e => by
    obtain ⟨v, _, h2⟩ := slot e (by simp)
    cases h2
  refine ⟨c, .refl, fun a q => q.elim, ⟨?_, fun i d e => ?_, fun i d e => absurd e (noow i d), fun i e => ?_, fun i j a d e hij h1 _ _ => absurd h1 (noow i d)⟩, fun i d a e _ => absurd e (noow i d)⟩
  · unfold start L2.start
    rw [List.length_append, List.length_append, List.length_replicate, List.length_replicate, List.length_map, hl]
  · obtain ⟨v, h1, h2⟩ := slot e (by simp)
    cases h2 with
    | va h2 => exact ⟨v, h1, h2.unbar fun a q => q.elim id False.elim⟩
  · obtain ⟨v, h1, h2⟩ := slot e (by simp)
    cases h2 with
    | st h2 => exact ⟨_, h1, h2⟩
theorem out_ok {D : Ends} {S B : Ads} {H : Hp} {b : Nat} {Q : VK} {p : Fl × Rho} {b' : Nat} (hn : D.nx = fun _ H' => Q .non H') (hr : D.rt = Q) (w : (outV p).wp b' fun d b2 => ∀ v H', Ext S b b2 H H' → Dn B H' v d → Q v H') : Fin D S B H b p b' := by
  intro O' σ' H' r
  obtain ⟨f, ρ⟩ := p
  cases f with
  | nx =>
    show D.nx σ' H'
    rw [hn]
    exact w _ _ r.x .non
  | rt d =>
    intro v hv
    rw [hr]
    exact w _ _ r.x hv
  | bk => exact w.elim
  | ct => exact w.elim
theorem def_ok {tb : Tb} {Φ : Calls} {k : Nat} {F : Fd} {st : Stmt} {qual x : Str} {f : Addr} {fd : FuncData} (A0 : Around0 P w K mg base tb Φ k) (D : FunD K x qual (defArgs st) (defBody st) (defScope st) [] [] f fd) (hs : fnScB F.N F.ps (defScope st) = true) (hm : mSs tb F.N (defScope st) F.body (defBody st) = true) :
    FnG P w K mg base (k + 1) f fd F.ps (fun xs => runF Φ F xs) := by
  obtain ⟨oc, od, dV, kV, doc, pm, an, cdv, ct, osl, rfl, lk, hcd, _, _⟩ := D.ex
  have FS := fnScB_ok hs
  refine fn_ofG lk hcd FS fun A outer s H vs Q E hr hgd ⟨S, B, b, ss, hl, c, hd, w⟩ => ?_
  have G : GoodS tb F.N Φ k (cxOf CX0 P _ K mg base F.N qual (defScope st) f cdv A outer s H E) (defScope st) :=
    ⟨⟨rfl, FS.nd, rfl, hr, hgd, A0.gs, A0.bs, A0.fs⟩, rfl, fun _ => rfl, FS.kind, PassesOwn.leaving⟩
  obtain ⟨_, w⟩ := wp_chk w
  exact ⟨_, (sndS F.body).f2 _ _ _ G hm, S, B, H, b, fun _ => False, b, start F ss, sr_start c hd, T.wp_mono (fun p b' w => out_ok rfl rfl w) (T.wp_bind.mp w)⟩

/-! ### the table -/
/-- one def of the table, where it stands -/
structure InTab (K : PySem.W.Frag) (mg : Str → Option Value) (tb : Tb) (tab : List Fd) (x : Str) : Prop where
  of : ∃ (F : Fd) (st : Stmt) (a : Addr) (fd : FuncData), tab.find? (fun F => F.name == x) = some F ∧ FunD K x x (defArgs st) (defBody st) (defScope st) [] [] a fd ∧ mg x = some (.ref a) ∧ Binds K fd F.ps [] ∧ fnScB F.N F.ps (defScope st) = true ∧ mSs tb F.N (defScope st) F.body (defBody st) = true
theorem tab_ok {tb : Tb} {tab : List Fd} (gs : ∀ (x : Str) (k : Int), tb.gs.contains (x, k) = true → ∃ u, mg x = some u ∧ RelV (.int k) u) (bs : ∀ (x : Str), tb.bs.contains x = true → mg x = none)
    (dr : ∃ a fd, mg "_law_draw" = some (.ref a) ∧ PySem.W.keepIn K (.ref a) = true ∧ Binds K fd ["state", "many"] [] ∧ ∀ k, FnG P w K mg base (k + 1) a fd ["state", "many"] drawF)
    (ht : ∀ x, tb.fs.contains x = true → x ≠ "_law_draw" → InTab K mg tb tab x) : ∀ k, Around0 P w K mg base tb (callF tab k) k
  | 0 => by
    refine ⟨gs, bs, fun f hf => ?_⟩
    have no : ∀ {a : Addr} {fd : FuncData} {ps : List Str}, FnG P w K mg base 0 a fd ps (callF tab 0 f) := fun {a fd ps} => ⟨fun A outer s H args us vs Q E hr hgd e0 hb r ⟨S, B, b, ss, hl, c, hd, w⟩ => False.elim w⟩
    by_cases e : f = "_law_draw"
    · subst e
      obtain ⟨a, fd, h1, h2, h3, h4⟩ := dr
      exact ⟨a, fd, _, h1, h2, h3, no, fun _ _ => rfl⟩
    · obtain ⟨F, st, a, fd, h1, h2, h3, h4, h5, h6⟩ := (ht f hf e).of
      exact ⟨a, fd, F.ps, h3, h2.kp, h4, no, fun _ _ => rfl⟩
  | k + 1 => by
    have A0 := tab_ok (tab := tab) gs bs dr ht k
    refine ⟨gs, bs, fun f hf => ?_⟩
    by_cases e : f = "_law_draw"
    · subst e
      obtain ⟨a, fd, h1, h2, h3, h4⟩ := dr
      have ec : callF tab (k + 1) "_law_draw" = drawF := by
        funext xs
        unfold callF
        exact if_pos rfl
      rw [ec]
      refine ⟨a, fd, _, h1, h2, h3, h4 k, fun ss hss => ?_⟩
      unfold drawF
      split
      · exact absurd rfl hss
      · rfl
    · obtain ⟨F, st, a, fd, h1, h2, h3, h4, h5, h6⟩ := (ht f hf e).of
      have ec : callF tab (k + 1) f = fun xs => runF (callF tab k) F xs := by
        funext xs
        show (if f = "_law_draw" then drawF xs else match tab.find? (fun F => F.name == f) with
          | some F => runF (callF tab k) F xs
          | none => .fail) = _
        rw [if_neg e, h1]
      rw [ec]
      refine ⟨a, fd, F.ps, h3, h2.kp, h4, def_ok A0 h2 h5 h6, fun ss hss => ?_⟩
      show T.chk (ss.length == F.ps.length) _ = _
      rw [beq_false_of_ne hss]
      rfl
end
end RG
end

section
set_option Elab.async false
set_option linter.all false
set_option maxRecDepth 100000
set_option maxHeartbeats 4000000
/-! The draw, walked by hand. -/
namespace RG
open PySem PySem.Spec PySem.Calls PyProof.Rows L2

structure DrX (X : Cx) : Prop where
  hN : X.N = (["state", "many", "found"] : List Str)
  nd : X.N.Nodup
  sS : X.env.scope.names.lookup ("state" : Str) = some NameKind.local
  sM : X.env.scope.names.lookup ("many" : Str) = some NameKind.local
  sF : X.env.scope.names.lookup ("found" : Str) = some NameKind.local
  gl : Gl X "len"
  gi : Gl X "int"
  ml : X.mg "len" = none
  mi : X.mg "int" = none
  calm : X.calm = true
  kind : X.env.scope.kind = .function
def rIx (n : Int) : TE := fun σ H Q => ∃ a xs v, σ[0]? = some (some (.ref a)) ∧ H a = some (.lst xs) ∧ atI xs n = some v ∧ Q v H
def S6 (c : Addr) (k x y z w : Int) : List V := [.ref c, .int k, .int x, .int y, .int z, .int w]
def Kp (a : Addr) (H H' : Hp) : Prop := (∀ b o, b ≠ a → H b = some o → H' b = some o) ∧ ∀ b, H b ≠ none → H' b ≠ none
theorem Kp.refl {a : Addr} {H : Hp} : Kp a H H := ⟨fun _ _ _ h => h, fun _ h => h⟩
theorem Kp.trans {a : Addr} {H H1 H2 : Hp} (x : Kp a H H1) (y : Kp a H1 H2) : Kp a H H2 := ⟨fun b o n h => y.1 b o n (x.1 b o n h), fun b h => y.2 b (x.2 b h)⟩
theorem Kp.upd {a : Addr} {H : Hp} {o : HO} : Kp a H (L2.upd H a o) := ⟨fun b u n h => by rw [upd_ne n]; exact h, fun b h => by
  by_cases e : b = a
  · subst e; rw [upd_same]; simp
  · rw [upd_ne e]; exact h⟩
theorem Kp.alloc {a p : Addr} {H : Hp} {o : HO} (hp : H p = none) : Kp a H (L2.upd H p o) := ⟨fun b u n h => by rw [upd_ne (ne_of_none h hp)]; exact h, fun b h => by
  by_cases e : b = p
  · subst e; exact absurd hp h
  · rw [upd_ne e]; exact h⟩
section
variable {X : Cx}
theorem DrX.vS (d : DrX X) {p : Pos} : PE X (.Name "state" p) (tVar 0) := pe_var (by rw [d.hN]; rfl) (.inl d.sS) (by decide) (by decide)
theorem DrX.vM (d : DrX X) {p : Pos} : PE X (.Name "many" p) (tVar 1) := pe_var (by rw [d.hN]; rfl) (.inl d.sM) (by decide) (by decide)
theorem DrX.vF (d : DrX X) {p : Pos} : PE X (.Name "found" p) (tVar 2) := pe_var (by rw [d.hN]; rfl) (.inl d.sF) (by decide) (by decide)
theorem DrX.ix (d : DrX X) (n : Int) {p1 p2 p3 : Pos} : PE X (.Subscript (.Name "state" p1) (.Constant (.int n) 0 p2) p3) (rIx n) :=
  (pe_ix ix_list d.vS pe_int (plain_ix rfl)).imp fun σ H Q ⟨a, xs, v, h1, h2, h3, q⟩ => ⟨.ref a, h1, a, xs, n, v, rfl, rfl, SqL.of h2, h3, q⟩
def tI1 : TS := fun D σ H => ∃ (a c : Addr) (ns : List Int) (k x y z w : Int), σ[0]? = some (some (.ref a)) ∧ H a = some (.lst (S6 c k x y z w)) ∧ H c = some (.lst (ns.map .int)) ∧ a ≠ c ∧ 0 ≤ k ∧ 0 ≤ y ∧
  ∀ H' k' x' y', Kp a H H' → H' a = some (.lst (S6 c k' x' y' z w)) → 0 ≤ k' → 0 ≤ y' → D.nx σ H'
theorem dr_if1 (d : DrX X) {p1 p2 p3 p4 p5 p6 p7 p8 p9 p10 p11 p12 p13 p14 p15 p16 p17 p18 p19 p20 p21 p22 p23 p24 p25 p26 p27 p28 p29 p30 p31 p32 p33 p34 p35 p36 p37 p38 p39 p40 p41 : Pos} : PS X (Stmt.If (test := (Expr.BoolOp (op := BoolOp.And) (values := [ (Expr.Compare (left := (Expr.Subscript (value := (Expr.Name "state" p1)) (slice := (Expr.Constant (Const.int 3) 0 p2)) (pos := p3))) (ops := [CmpOp.Eq]) (comparators := [(Expr.Constant (Const.int 0) 0 p4)]) (pos := p5)), (Expr.Compare (left := (Expr.Subscript (value := (Expr.Name "state" p6)) (slice := (Expr.Constant (Const.int 1) 0 p7)) (pos := p8))) (ops := [CmpOp.Lt]) (comparators := [ (Expr.Call (func := (Expr.Name "len" p9)) (args := [ (Expr.Subscript (value := (Expr.Name "state" p10)) (slice := (Expr.Constant (Const.int 0) 0 p11)) (pos := p12))]) (keywords := []) (pos := p13))]) (pos := p14))]) (pos := p15))) (body := [ (Stmt.Assign (targets := [ (Expr.Tuple (elts := [ (Expr.Subscript (value := (Expr.Name "state" p16)) (slice := (Expr.Constant (Const.int 2) 0 p17)) (pos := p18)), (Expr.Subscript (value := (Expr.Name "state" p19)) (slice := (Expr.Constant (Const.int 3) 0 p20)) (pos := p21)), (Expr.Subscript (value := (Expr.Name "state" p22)) (slice := (Expr.Constant (Const.int 1) 0 p23)) (pos := p24))]) (k := 0) (pos := p25))]) (value := (Expr.Tuple (elts := [ (Expr.Subscript (value := (Expr.Subscript (value := (Expr.Name "state" p26)) (slice := (Expr.Constant (Const.int 0) 0 p27)) (pos := p28))) (slice := (Expr.Subscript (value := (Expr.Name "state" p29)) (slice := (Expr.Constant (Const.int 1) 0 p30)) (pos := p31))) (pos := p32)), (Expr.Constant (Const.int 60) 0 p33), (Expr.BinOp (left := (Expr.Subscript (value := (Expr.Name "state" p34)) (slice := (Expr.Constant (Const.int 1) 0 p35)) (pos := p36))) (op := Operator.Add) (right := (Expr.Constant (Const.int 1) 0 p37)) (pos := p38))]) (k := 0) (pos := p39))) (pos := p40))]) (orelse := []) (pos := p41)) tI1 := by
  refine (ps_if (pw_and (pt_cmpR op_eq (d.ix 3) pe_int (nomark _)) (pw_and1 (pt_cmpR op_lt (d.ix 1) (pe_callB call_len d.gl d.ml (by decide +kernel) (pa_cons (d.ix 0) pa_nil)) (nomark _)))).pt
    (pss_one (ps_asg (pe_tup (pa_cons (pe_ix ix_list (d.ix 0) (d.ix 1) (fun _ _ => rfl)) (pa_cons pe_int (pa_cons (pe_op op_add (d.ix 1) pe_int) pa_nil)))) (pg_tup d.calm (pgs_cons (pg_sub d.vS pe_int set_list) (pgs_cons (pg_sub d.vS pe_int set_list) (pgs_cons (pg_sub d.vS pe_int set_list) pgs_nil)))) (by rfl) (by rw [sw_eq d.kind (by rfl)]; rfl) (by rfl))) pss_nil).imp
    fun D σ H ⟨a, c, ns, k, x, y, z, w, h1, h2, h3, hac, hk, hy, q⟩ => ?_
  have same : D.nx σ H := q H k x y .refl h2 hk hy
  refine ⟨a, _, .int y, h1, h2, rfl, rfl, _, rfl, ?_⟩
  by_cases e : y = 0
  · rw [decide_eq_true (by rw [e])]
    dsimp only
    rw [if_pos rfl]
    refine ⟨a, _, .int k, h1, h2, rfl, a, _, .ref c, h1, h2, rfl, .ref c, ns.length, rfl, .inl ⟨_, SqL.of h3, by rw [List.length_map]⟩, k, ns.length, rfl, rfl, _, rfl, ?_⟩
    by_cases e2 : k < (ns.length : Int)
    · rw [decide_eq_true e2]
      dsimp only
      rw [if_pos rfl]
      have hat : atI (ns.map V.int) k = some (.int (ns[k.toNat]'(by omega))) := by
        unfold atI ixN
        rw [List.length_map, if_pos (by omega)]
        have e3 : (if 0 ≤ k then k else k + (ns.length : Int)).toNat = k.toNat := by rw [if_pos hk]
        simp [e3, hk, e2, show k.toNat < ns.length by omega]
      refine ⟨a, _, .ref c, h1, h2, rfl, a, _, .int k, h1, h2, rfl, c, _, k, _, rfl, rfl, SqL.of h3, hat, a, _, .int k, h1, h2, rfl, k, 1, rfl, rfl, by rw [line_eq]; show 3 ≤ 16777216; decide, fun p hp => ?_⟩
      have hap : a ≠ p := ne_of_none h2 hp
      refine ⟨p, _, rfl, SqT.of upd_same, rfl, _, _, rfl, _, h1, a, S6 c k x y z w, 2, 2, rfl, rfl, (upd_ne hap).trans h2, rfl, _, _, rfl, _, h1, a, _, 3, 3, rfl, rfl, upd_same, rfl, _, _, rfl, _, h1, a, _, 1, 1, rfl, rfl, upd_same, rfl, rfl, ?_⟩
      exact q _ (k + 1) _ 60 ((((Kp.alloc hp).trans .upd).trans .upd).trans .upd) upd_same (by omega) (by decide)
    · rw [decide_eq_false e2]
      exact same
  · rw [decide_eq_false (fun z => e (V.int.inj z))]
    exact same
def tI2 : TS := fun D σ H => ∃ (a c : Addr) (k x y z w m : Int), σ[0]? = some (some (.ref a)) ∧ σ[1]? = some (some (.int m)) ∧ σ.length = 3 ∧ H a = some (.lst (S6 c k x y z w)) ∧ 0 ≤ y ∧ 0 < m ∧ m < 1073741824 ∧
  (∀ H' d x' y', Kp a H H' → H' a = some (.lst (S6 c k x' y' z w)) → 0 ≤ y' → 0 ≤ d → d < m → D.rt (.int d) H') ∧ D.nx σ H
theorem dr_if2 (d : DrX X) {p42 p43 p44 p45 p46 p47 p48 p49 p50 p51 p52 p53 p54 p55 p56 p57 p58 p59 p60 p61 p62 p63 p64 p65 p66 p67 p68 p69 p70 p71 p72 p73 p74 p75 p76 p77 p78 p79 p80 p81 p82 p83 : Pos} : PS X (Stmt.If (test := (Expr.Compare (left := (Expr.Subscript (value := (Expr.Name "state" p42)) (slice := (Expr.Constant (Const.int 3) 0 p43)) (pos := p44))) (ops := [CmpOp.Gt]) (comparators := [(Expr.Constant (Const.int 0) 0 p45)]) (pos := p46))) (body := [ (Stmt.Assign (targets := [(Expr.Name "found" p47)]) (value := (Expr.BinOp (left := (Expr.Call (func := (Expr.Name "int" p48)) (args := [ (Expr.Subscript (value := (Expr.Name "state" p49)) (slice := (Expr.Constant (Const.int 2) 0 p50)) (pos := p51))]) (keywords := []) (pos := p52))) (op := Operator.Mod) (right := (Expr.Name "many" p53)) (pos := p54))) (pos := p55)), (Stmt.Assign (targets := [ (Expr.Subscript (value := (Expr.Name "state" p56)) (slice := (Expr.Constant (Const.int 2) 0 p57)) (pos := p58))]) (value := (Expr.BinOp (left := (Expr.Subscript (value := (Expr.Name "state" p59)) (slice := (Expr.Constant (Const.int 2) 0 p60)) (pos := p61))) (op := Operator.FloorDiv) (right := (Expr.Name "many" p62)) (pos := p63))) (pos := p64)), (Stmt.Assign (targets := [ (Expr.Subscript (value := (Expr.Name "state" p65)) (slice := (Expr.Constant (Const.int 3) 0 p66)) (pos := p67))]) (value := (Expr.IfExp (test := (Expr.Compare (left := (Expr.Subscript (value := (Expr.Name "state" p68)) (slice := (Expr.Constant (Const.int 2) 0 p69)) (pos := p70))) (ops := [CmpOp.Gt]) (comparators := [(Expr.Constant (Const.int 0) 0 p71)]) (pos := p72))) (body := (Expr.BinOp (left := (Expr.Subscript (value := (Expr.Name "state" p73)) (slice := (Expr.Constant (Const.int 3) 0 p74)) (pos := p75))) (op := Operator.Sub) (right := (Expr.Constant (Const.int 1) 0 p76)) (pos := p77))) (orelse := (Expr.Constant (Const.int 0) 0 p78)) (pos := p79))) (pos := p80)), (Stmt.Return (some (Expr.Name "found" p81)) p82)]) (orelse := []) (pos := p83)) tI2 := by
  refine (ps_if (pt_cmpR op_gt (d.ix 3) pe_int (nomark _)) (pss_cons (ps_set (i := 2) d.nd (by rw [d.hN]; rfl) (.inl d.sF) (pe_op op_modN (pe_callTy call_int1 d.gi d.mi (by decide +kernel) (pa_cons (d.ix 2) pa_nil)) d.vM) (by rfl) (.inr d.sF))
    (pss_cons (ps_asg (pe_op op_fdivN (d.ix 2) d.vM) (pg_sub d.vS pe_int set_list) (by rfl) (by rfl) (by rfl))
    (pss_cons (ps_asg (pe_ifExp (pt_cmpR op_gt (d.ix 2) pe_int (nomark _)) (pe_op op_sub (d.ix 3) pe_int) pe_int) (pg_sub d.vS pe_int set_list) (by rfl) (by rfl) (by rfl))
    (pss_cons (ps_ret d.vF) pss_nil)))) pss_nil).imp
    fun D σ H ⟨a, c, k, x, y, z, w, m, h1, h2, hl, h3, hy, hm, hm2, q, same⟩ => ?_
  refine ⟨a, _, .int y, h1, h3, rfl, y, 0, rfl, rfl, _, rfl, ?_⟩
  by_cases e : 0 < y
  · rw [decide_eq_true e]
    dsimp only
    rw [if_pos rfl]
    have k0 : (σ.set 2 (some (V.int (x.fmod m))))[0]? = some (some (.ref a)) := by rw [List.getElem?_set_ne (by decide)]; exact h1
    have k1 : (σ.set 2 (some (V.int (x.fmod m))))[1]? = some (some (.int m)) := by rw [List.getElem?_set_ne (by decide)]; exact h2
    have k2 : (σ.set 2 (some (V.int (x.fmod m))))[2]? = some (some (.int (x.fmod m))) := List.getElem?_set_self (by omega)
    refine ⟨a, _, .int x, h1, h3, rfl, .inl ⟨x, rfl, _, h2, x, m, rfl, rfl, by omega, ?_⟩⟩
    refine ⟨a, _, .int x, k0, h3, rfl, _, k1, x, m, rfl, rfl, ⟨by omega, by omega⟩, _, k0, a, _, 2, 2, rfl, rfl, h3, rfl, ?_⟩
    refine ⟨a, _, .int (x.fdiv m), k0, upd_same, rfl, _, 0, rfl, rfl, _, rfl, ?_⟩
    have fin : ∀ (H' : Hp) (y' : Int), Kp a H H' → H' a = some (.lst (S6 c k (x.fdiv m) y' z w)) → 0 ≤ y' → ∃ v, (σ.set 2 (some (V.int (x.fmod m))))[2]? = some (some v) ∧ D.rt v H' := fun H' y' kp e1 e2 =>
      ⟨_, k2, q H' _ _ y' kp e1 e2 (Int.fmod_nonneg_of_pos _ hm) (Int.fmod_lt_of_pos _ hm)⟩
    by_cases e2 : 0 < x.fdiv m
    · rw [decide_eq_true e2]
      refine ⟨a, _, .int y, k0, upd_same, rfl, y, 1, rfl, rfl, _, k0, a, _, 3, 3, rfl, rfl, upd_same, rfl, ?_⟩
      exact fin _ (y - 1) (Kp.upd.trans .upd) upd_same (by omega)
    · rw [decide_eq_false e2]
      refine ⟨_, k0, a, _, 3, 3, rfl, rfl, upd_same, rfl, ?_⟩
      exact fin _ 0 (Kp.upd.trans .upd) upd_same (Int.le_refl _)
  · rw [decide_eq_false e]
    exact same
def tR3 : TS := fun D σ H => ∃ (a c : Addr) (k x y z w m : Int), σ[0]? = some (some (.ref a)) ∧ σ[1]? = some (some (.int m)) ∧ H a = some (.lst (S6 c k x y z w)) ∧ 0 ≤ w ∧ w < 4611686018427387904 ∧ 0 < m ∧
  (∀ H' d z', Kp a H H' → H' a = some (.lst (S6 c k x y z' (w + 1))) → 0 ≤ d → d < m → D.rt (.int d) H')
theorem dr_rest (d : DrX X) {p84 p85 p86 p87 p88 p89 p90 p91 p92 p93 p94 p95 p96 p97 p98 p99 p100 p101 p102 p103 p104 p105 p106 p107 p108 p109 p110 p111 p112 p113 p114 p115 p116 p117 p118 p119 p120 p121 p122 p123 p124 p125 p126 p127 : Pos} : PSs X [(Stmt.Assign (targets := [ (Expr.Subscript (value := (Expr.Name "state" p84)) (slice := (Expr.Constant (Const.int 5) 0 p85)) (pos := p86))]) (value := (Expr.BinOp (left := (Expr.Subscript (value := (Expr.Name "state" p87)) (slice := (Expr.Constant (Const.int 5) 0 p88)) (pos := p89))) (op := Operator.Add) (right := (Expr.Constant (Const.int 1) 0 p90)) (pos := p91))) (pos := p92)), (Stmt.Assign (targets := [ (Expr.Subscript (value := (Expr.Name "state" p93)) (slice := (Expr.Constant (Const.int 4) 0 p94)) (pos := p95))]) (value := (Expr.BinOp (left := (Expr.Call (func := (Expr.Name "int" p96)) (args := [ (Expr.BinOp (left := (Expr.BinOp (left := (Expr.BinOp (left := (Expr.Subscript (value := (Expr.Name "state" p97)) (slice := (Expr.Constant (Const.int 4) 0 p98)) (pos := p99))) (op := Operator.Mult) (right := (Expr.Constant (Const.int 48271) 0 p100)) (pos := p101))) (op := Operator.Add) (right := (Expr.BinOp (left := (Expr.BinOp (left := (Expr.Subscript (value := (Expr.Name "state" p102)) (slice := (Expr.Constant (Const.int 5) 0 p103)) (pos := p104))) (op := Operator.Mult) (right := (Expr.Subscript (value := (Expr.Name "state" p105)) (slice := (Expr.Constant (Const.int 5) 0 p106)) (pos := p107))) (pos := p108))) (op := Operator.Mult) (right := (Expr.Constant (Const.int 69621) 0 p109)) (pos := p110))) (pos := p111))) (op := Operator.Add) (right := (Expr.Constant (Const.int 11) 0 p112)) (pos := p113))]) (keywords := []) (pos := p114))) (op := Operator.Mod) (right := (Expr.Constant (Const.int 2147483647) 0 p115)) (pos := p116))) (pos := p117)), (Stmt.Return (value := (some (Expr.BinOp (left := (Expr.Call (func := (Expr.Name "int" p118)) (args := [ (Expr.BinOp (left := (Expr.Subscript (value := (Expr.Name "state" p119)) (slice := (Expr.Constant (Const.int 4) 0 p120)) (pos := p121))) (op := Operator.FloorDiv) (right := (Expr.Constant (Const.int 13) 0 p122)) (pos := p123))]) (keywords := []) (pos := p124))) (op := Operator.Mod) (right := (Expr.Name "many" p125)) (pos := p126)))) (pos := p127))] tR3 := by
  refine (pss_cons (ps_asg (pe_op op_add (d.ix 5) pe_int) (pg_sub d.vS pe_int set_list) (by rfl) (by rfl) (by rfl))
    (pss_cons (ps_asg (pe_op op_modN (pe_callTy call_int1 d.gi d.mi (by decide +kernel) (pa_cons (pe_op op_add (pe_op op_add (pe_op op_mul (d.ix 4) pe_int) (pe_op op_mul (pe_op op_mul (d.ix 5) (d.ix 5)) pe_int)) pe_int) pa_nil)) pe_int) (pg_sub d.vS pe_int set_list) (by rfl) (by rfl) (by rfl))
    (pss_cons (ps_ret (pe_op op_modN (pe_callTy call_int1 d.gi d.mi (by decide +kernel) (pa_cons (pe_op op_fdivN (d.ix 4) pe_int) pa_nil)) d.vM)) pss_nil))).imp
    fun D σ H ⟨a, c, k, x, y, z, w, m, h1, h2, h3, hw, hw2, hm, q⟩ => ?_
  refine ⟨a, _, .int w, h1, h3, rfl, w, 1, rfl, rfl, _, h1, a, _, 5, 5, rfl, rfl, h3, rfl, ?_⟩
  refine ⟨a, _, .int z, h1, upd_same, rfl, z, 48271, rfl, rfl, .inr (by decide), a, _, .int (w + 1), h1, upd_same, rfl, a, _, .int (w + 1), h1, upd_same, rfl, w + 1, w + 1, rfl, rfl, .inl (by omega), _, 69621, rfl, rfl, .inr (by decide), _, _, rfl, rfl, _, 11, rfl, rfl, .inl ⟨_, rfl, _, _, rfl, rfl, (show (2147483647 : Int) ≠ 0 by decide), _, h1, a, _, 4, 4, rfl, rfl, upd_same, rfl, ?_⟩⟩
  refine ⟨a, _, .int _, h1, upd_same, rfl, _, 13, rfl, rfl, (show (13 : Int) ≠ 0 ∧ (13 : Int).natAbs < 1073741824 from by decide), .inl ⟨_, rfl, _, h2, _, m, rfl, rfl, by omega, ?_⟩⟩
  exact q _ _ _ (Kp.upd.trans .upd) upd_same (Int.fmod_nonneg_of_pos _ hm) (Int.fmod_lt_of_pos _ hm)
end
/-- the draw's promise, by its body -/
theorem draw_ok {P : Program} {ww : World} {K : PySem.W.Frag} {mg : Str → Option Value} {base : Heap} {k : Nat} {f : Addr} {fd : FuncData} {qual x : Str} {st : Stmt} (D : FunD K x qual (defArgs st) (defBody st) (defScope st) [] [] f fd)
    (hs : fnScB (["state", "many", "found"] : List Str) (["state", "many"] : List Str) (defScope st) = true) (hn : (defScope st).names = [(Str.ofString "state", NameKind.local), (Str.ofString "many", NameKind.local), (Str.ofString "found", NameKind.local), (Str.ofString "len", NameKind.globalImplicit), (Str.ofString "int", NameKind.globalImplicit)])
    (ml : mg "len" = none) (mi : mg "int" = none) {p1 p2 p3 p4 p5 p6 p7 p8 p9 p10 p11 p12 p13 p14 p15 p16 p17 p18 p19 p20 p21 p22 p23 p24 p25 p26 p27 p28 p29 p30 p31 p32 p33 p34 p35 p36 p37 p38 p39 p40 p41 p42 p43 p44 p45 p46 p47 p48 p49 p50 p51 p52 p53 p54 p55 p56 p57 p58 p59 p60 p61 p62 p63 p64 p65 p66 p67 p68 p69 p70 p71 p72 p73 p74 p75 p76 p77 p78 p79 p80 p81 p82 p83 p84 p85 p86 p87 p88 p89 p90 p91 p92 p93 p94 p95 p96 p97 p98 p99 p100 p101 p102 p103 p104 p105 p106 p107 p108 p109 p110 p111 p112 p113 p114 p115 p116 p117 p118 p119 p120 p121 p122 p123 p124 p125 p126 p127 : Pos} (hb : defBody st = [(Stmt.If (test := (Expr.BoolOp (op := BoolOp.And) (values := [ (Expr.Compare (left := (Expr.Subscript (value := (Expr.Name "state" p1)) (slice := (Expr.Constant (Const.int 3) 0 p2)) (pos := p3))) (ops := [CmpOp.Eq]) (comparators := [(Expr.Constant (Const.int 0) 0 p4)]) (pos := p5)), (Expr.Compare (left := (Expr.Subscript (value := (Expr.Name "state" p6)) (slice := (Expr.Constant (Const.int 1) 0 p7)) (pos := p8))) (ops := [CmpOp.Lt]) (comparators := [ (Expr.Call (func := (Expr.Name "len" p9)) (args := [ (Expr.Subscript (value := (Expr.Name "state" p10)) (slice := (Expr.Constant (Const.int 0) 0 p11)) (pos := p12))]) (keywords := []) (pos := p13))]) (pos := p14))]) (pos := p15))) (body := [ (Stmt.Assign (targets := [ (Expr.Tuple (elts := [ (Expr.Subscript (value := (Expr.Name "state" p16)) (slice := (Expr.Constant (Const.int 2) 0 p17)) (pos := p18)), (Expr.Subscript (value := (Expr.Name "state" p19)) (slice := (Expr.Constant (Const.int 3) 0 p20)) (pos := p21)), (Expr.Subscript (value := (Expr.Name "state" p22)) (slice := (Expr.Constant (Const.int 1) 0 p23)) (pos := p24))]) (k := 0) (pos := p25))]) (value := (Expr.Tuple (elts := [ (Expr.Subscript (value := (Expr.Subscript (value := (Expr.Name "state" p26)) (slice := (Expr.Constant (Const.int 0) 0 p27)) (pos := p28))) (slice := (Expr.Subscript (value := (Expr.Name "state" p29)) (slice := (Expr.Constant (Const.int 1) 0 p30)) (pos := p31))) (pos := p32)), (Expr.Constant (Const.int 60) 0 p33), (Expr.BinOp (left := (Expr.Subscript (value := (Expr.Name "state" p34)) (slice := (Expr.Constant (Const.int 1) 0 p35)) (pos := p36))) (op := Operator.Add) (right := (Expr.Constant (Const.int 1) 0 p37)) (pos := p38))]) (k := 0) (pos := p39))) (pos := p40))]) (orelse := []) (pos := p41)), (Stmt.If (test := (Expr.Compare (left := (Expr.Subscript (value := (Expr.Name "state" p42)) (slice := (Expr.Constant (Const.int 3) 0 p43)) (pos := p44))) (ops := [CmpOp.Gt]) (comparators := [(Expr.Constant (Const.int 0) 0 p45)]) (pos := p46))) (body := [ (Stmt.Assign (targets := [(Expr.Name "found" p47)]) (value := (Expr.BinOp (left := (Expr.Call (func := (Expr.Name "int" p48)) (args := [ (Expr.Subscript (value := (Expr.Name "state" p49)) (slice := (Expr.Constant (Const.int 2) 0 p50)) (pos := p51))]) (keywords := []) (pos := p52))) (op := Operator.Mod) (right := (Expr.Name "many" p53)) (pos := p54))) (pos := p55)), (Stmt.Assign (targets := [ (Expr.Subscript (value := (Expr.Name "state" p56)) (slice := (Expr.Constant (Const.int 2) 0 p57)) (pos := p58))]) (value := (Expr.BinOp (left := (Expr.Subscript (value := (Expr.Name "state" p59)) (slice := (Expr.Constant (Const.int 2) 0 p60)) (pos := p61))) (op := Operator.FloorDiv) (right := (Expr.Name "many" p62)) (pos := p63))) (pos := p64)), (Stmt.Assign (targets := [ (Expr.Subscript (value := (Expr.Name "state" p65)) (slice := (Expr.Constant (Const.int 3) 0 p66)) (pos := p67))]) (value := (Expr.IfExp (test := (Expr.Compare (left := (Expr.Subscript (value := (Expr.Name "state" p68)) (slice := (Expr.Constant (Const.int 2) 0 p69)) (pos := p70))) (ops := [CmpOp.Gt]) (comparators := [(Expr.Constant (Const.int 0) 0 p71)]) (pos := p72))) (body := (Expr.BinOp (left := (Expr.Subscript (value := (Expr.Name "state" p73)) (slice := (Expr.Constant (Const.int 3) 0 p74)) (pos := p75))) (op := Operator.Sub) (right := (Expr.Constant (Const.int 1) 0 p76)) (pos := p77))) (orelse := (Expr.Constant (Const.int 0) 0 p78)) (pos := p79))) (pos := p80)), (Stmt.Return (some (Expr.Name "found" p81)) p82)]) (orelse := []) (pos := p83)), (Stmt.Assign (targets := [ (Expr.Subscript (value := (Expr.Name "state" p84)) (slice := (Expr.Constant (Const.int 5) 0 p85)) (pos := p86))]) (value := (Expr.BinOp (left := (Expr.Subscript (value := (Expr.Name "state" p87)) (slice := (Expr.Constant (Const.int 5) 0 p88)) (pos := p89))) (op := Operator.Add) (right := (Expr.Constant (Const.int 1) 0 p90)) (pos := p91))) (pos := p92)), (Stmt.Assign (targets := [ (Expr.Subscript (value := (Expr.Name "state" p93)) (slice := (Expr.Constant (Const.int 4) 0 p94)) (pos := p95))]) (value := (Expr.BinOp (left := (Expr.Call (func := (Expr.Name "int" p96)) (args := [ (Expr.BinOp (left := (Expr.BinOp (left := (Expr.BinOp (left := (Expr.Subscript (value := (Expr.Name "state" p97)) (slice := (Expr.Constant (Const.int 4) 0 p98)) (pos := p99))) (op := Operator.Mult) (right := (Expr.Constant (Const.int 48271) 0 p100)) (pos := p101))) (op := Operator.Add) (right := (Expr.BinOp (left := (Expr.BinOp (left := (Expr.Subscript (value := (Expr.Name "state" p102)) (slice := (Expr.Constant (Const.int 5) 0 p103)) (pos := p104))) (op := Operator.Mult) (right := (Expr.Subscript (value := (Expr.Name "state" p105)) (slice := (Expr.Constant (Const.int 5) 0 p106)) (pos := p107))) (pos := p108))) (op := Operator.Mult) (right := (Expr.Constant (Const.int 69621) 0 p109)) (pos := p110))) (pos := p111))) (op := Operator.Add) (right := (Expr.Constant (Const.int 11) 0 p112)) (pos := p113))]) (keywords := []) (pos := p114))) (op := Operator.Mod) (right := (Expr.Constant (Const.int 2147483647) 0 p115)) (pos := p116))) (pos := p117)), (Stmt.Return (value := (some (Expr.BinOp (left := (Expr.Call (func := (Expr.Name "int" p118)) (args := [ (Expr.BinOp (left := (Expr.Subscript (value := (Expr.Name "state" p119)) (slice := (Expr.Constant (Const.int 4) 0 p120)) (pos := p121))) (op := Operator.FloorDiv) (right := (Expr.Constant (Const.int 13) 0 p122)) (pos := p123))]) (keywords := []) (pos := p124))) (op := Operator.Mod) (right := (Expr.Name "many" p125)) (pos := p126)))) (pos := p127))]) : FnG P ww K mg base (k + 1) f fd ["state", "many"] drawF := by
  obtain ⟨oc, od, dV, kV, doc, pm, an, cdv, ct, osl, rfl, lk, hcd, _, _⟩ := D.ex
  have FS := fnScB_ok hs
  refine fn_ofG lk hcd FS fun A outer s H vs Q E hr hgd ⟨S, B, b, ss, hl, c, hd, w⟩ => ?_
  have dx : DrX (cxOf CX0 P ww K mg base (["state", "many", "found"] : List Str) qual (defScope st) f cdv A outer s H E) := by
    refine ⟨rfl, FS.nd, ?_, ?_, ?_, ?_, ?_, ml, mi, rfl, FS.kind⟩
    all_goals
      show (defScope st).names.lookup _ = _
      rw [hn]
      rfl
  rw [hb]
  refine ⟨_, pss_cons (dr_if1 dx) (pss_cons (dr_if2 dx) (dr_rest dx)), ?_⟩
  unfold drawF at w
  split at w
  · rename_i m
    cases hd with
    | cons h1 h2 =>
      cases h1 with
      | @st a hst =>
        cases h2 with
        | cons h2 h3 =>
          cases h3
          cases h2 with
          | va h2 =>
            obtain rfl := (DnT.of (S := S) h2).int
            obtain ⟨⟨hm, hm2, hb0⟩, w⟩ := w
            obtain ⟨hS, c', ns, k0, x0, y0, z0, w0, hSc, hac, ha, hc, hk, hy, hw, hwb⟩ := hst
            have fin : ∀ (H' : Hp) (d k' x' y' z' w' : Int), Kp a H H' → H' a = some (.lst (S6 c' k' x' y' z' w')) → 0 ≤ k' → 0 ≤ y' → 0 ≤ w' → w' ≤ w0 + 1 → 0 ≤ d → d < m → Q (.int d) H' := fun H' d k' x' y' z' w' kp e1 e2 e3 e4 e5 e6 e7 => by
              refine w d e6 e7 (.int d) H' ⟨fun b o e n => kp.1 b o (fun z => n (by rw [z]; exact hS)) e, kp.2, fun a2 st2 => ?_, by omega⟩ (.int d)
              by_cases z : a2 = a
              · subst z
                obtain ⟨_, c2, ns2, k2, x2, y2, z2, w2, q1, q2, q3, q4, q5, q6, q7, q8⟩ := st2
                rw [ha] at q3
                injection q3 with q3
                injection q3 with q3
                injection q3 with q31 q3
                injection q31 with q31
                subst q31
                exact ⟨hS, c', ns2, k', x', y', z', w', hSc, hac, e1, kp.1 _ _ (fun z => hac z.symm) q4, e2, e3, e4, by omega⟩
              · obtain ⟨q0, c2, ns2, k2, x2, y2, z2, w2, q1, q2, q3, q4, q5, q6, q7, q8⟩ := st2
                have hne : c2 ≠ a := fun z => by
                  subst z
                  rw [ha] at q4
                  injection q4 with q4
                  injection q4 with q4
                  cases ns2 with
                  | nil => cases q4
                  | cons i r => injection q4 with q4; cases q4
                exact ⟨q0, c2, ns2, k2, x2, y2, z2, w2, q1, q2, kp.1 _ _ z q3, kp.1 _ _ hne q4, q5, q6, q7, by omega⟩
            have hσ : L2.start (["state", "many", "found"] : List Str) [.ref a, .int m] = [some (.ref a), some (.int m), none] := rfl
            rw [hσ]
            refine ⟨a, c', ns, k0, x0, y0, z0, w0, rfl, ha, hc, hac, hk, hy, fun H1 k1 x1 y1 kp1 e1 e2 e3 => ?_⟩
            refine ⟨a, c', k1, x1, y1, z0, w0, m, rfl, rfl, rfl, e1, e3, hm, hm2, fun H2 d x2 y2 kp2 e4 e5 e6 e7 => ?_, ?_⟩
            · exact fin H2 d k1 x2 y2 z0 w0 (kp1.trans kp2) e4 e2 e5 hw (by omega) e6 e7
            · refine ⟨a, c', k1, x1, y1, z0, w0, m, rfl, rfl, e1, hw, by omega, hm, fun H2 d z2 kp2 e4 e6 e7 => ?_⟩
              exact fin H2 d k1 x1 y1 z2 (w0 + 1) (kp1.trans kp2) e4 e2 e3 (by omega) (Int.le_refl _) e6 e7
  · exact w.elim
end RG
end

section
set_option Elab.async false
set_option linter.all false
set_option maxRecDepth 100000
set_option maxHeartbeats 4000000
/-! The beginning of the draws, walked by hand. -/
namespace RG
open PySem PySem.Spec PySem.Calls PyProof.Rows L2

def spStart (K : PySem.W.Frag) : Sp := fun vs H Q _ => ∃ (a : Addr) (ns : List Int), vs = [.ref a] ∧ SqL K H a (ns.map V.int) ∧ ns.length ≤ 16777216 ∧
  ∀ H' (p c : Addr) (ms : List Int) (z : Int), (∀ b o, H b = some o → H' b = some o) → H p = none → H c = none → p ≠ c → H' c = some (.lst (ms.map V.int)) → H' p = some (.lst (S6 c 0 0 0 z 0)) → Q (.ref p) H'
def scS : Scope := { kind := ScopeKind.function, names := [(Str.ofString ".0", NameKind.local), (Str.ofString "cell", NameKind.local), (Str.ofString "abs", NameKind.globalImplicit), (Str.ofString "int", NameKind.globalImplicit)], isGenerator := false, isCoroutine := false, more := [] : Scope }
structure StX (X : Cx) : Prop where
  hN : X.N = (["script", "seed", "cell"] : List Str)
  nd : X.N.Nodup
  sS : X.env.scope.names.lookup ("script" : Str) = some NameKind.local
  sM : X.env.scope.names.lookup ("seed" : Str) = some NameKind.local
  sF : X.env.scope.names.lookup ("cell" : Str) = some NameKind.local
  gi : Gl X "int"
  mi : X.mg "int" = none
  ma : X.mg "abs" = none
  calm : X.calm = true
  pass : PassesOwn (model X.prog X.w) X.A X.env X.xe
section
variable {X : Cx}
theorem cut_ints (ns : List Int) (lo hi : Option Int) : ∃ ms : List Int, cutV (ns.map V.int) lo hi = ms.map V.int ∧ ms.length ≤ ns.length := by
  refine ⟨(ns.drop (HT.sIx ns.length 0 lo)).take (HT.sIx ns.length ns.length hi - HT.sIx ns.length 0 lo), ?_, ?_⟩
  · unfold cutV
    rw [List.length_map, List.map_take, List.map_drop]
  · rw [List.length_take, List.length_drop]
    omega
theorem start_pss (d : StX X) {p1 p2 p3 p4 p5 p6 p7 p8 p9 p10 p11 p12 p13 p14 p15 p16 p17 p18 p19 p20 p21 p22 p23 p24 p25 p26 p27 p28 p29 p30 p31 p32 p33 p34 p35 p36 p37 p38 p39 p40 : Pos} : ∃ t, PSs X [(Stmt.Assign (targets := [(Expr.Name "seed" p1)]) (value := (Expr.Constant (Const.int 7) 0 p2)) (pos := p3)), (Stmt.For (target := (Expr.Name "cell" p4)) (iter := (Expr.Subscript (value := (Expr.Name "script" p5)) (slice := (Expr.Slice (lower := none) (upper := (some (Expr.Constant (Const.int 63) 0 p6))) (step := none) (pos := p7))) (pos := p8))) (body := [ (Stmt.Assign (targets := [(Expr.Name "seed" p9)]) (value := (Expr.BinOp (left := (Expr.BinOp (left := (Expr.Call (func := (Expr.Name "int" p10)) (args := [ (Expr.BinOp (left := (Expr.BinOp (left := (Expr.Name "seed" p11)) (op := Operator.Mult) (right := (Expr.Constant (Const.int 48271) 0 p12)) (pos := p13))) (op := Operator.Add) (right := (Expr.Name "cell" p14)) (pos := p15))]) (keywords := []) (pos := p16))) (op := Operator.Mod) (right := (Expr.Constant (Const.int 2147483629) 0 p17)) (pos := p18))) (op := Operator.Add) (right := (Expr.Constant (Const.int 1) 0 p19)) (pos := p20))) (pos := p21))]) (orelse := []) (pos := p22)), (Stmt.Return (value := (some (Expr.List (elts := [ (Expr.ListComp (elt := (Expr.Call (func := (Expr.Name "abs" p23)) (args := [ (Expr.Call (func := (Expr.Name "int" p24)) (args := [(Expr.Name "cell" p25)]) (keywords := []) (pos := p26))]) (keywords := []) (pos := p27))) (generators := [ { target := (Expr.Name "cell" p28), iter := (Expr.Subscript (value := (Expr.Name "script" p29)) (slice := (Expr.Slice (lower := none) (upper := (some (Expr.Constant (Const.int 63) 0 p30))) (step := none) (pos := p31))) (pos := p32)), ifs := [], is_async := 0 : Comprehension }]) (scope := { kind := ScopeKind.function, names := [ (Str.ofString ".0", NameKind.local), (Str.ofString "cell", NameKind.local), (Str.ofString "abs", NameKind.globalImplicit), (Str.ofString "int", NameKind.globalImplicit)], isGenerator := false, isCoroutine := false, more := [] : Scope }) (pos := p33)), (Expr.Constant (Const.int 0) 0 p34), (Expr.Constant (Const.int 0) 0 p35), (Expr.Constant (Const.int 0) 0 p36), (Expr.Name "seed" p37), (Expr.Constant (Const.int 0) 0 p38)]) (pos := p39)))) (pos := p40))] t ∧ ∀ D a H Q, D.rt = Q → spStart X.K [.ref a] H Q (fun _ _ _ => False) → t D [some (.ref a), none, none] H := by
  have vS : ∀ {p : Pos}, PE X (.Name "script" p) (tVar 0) := fun {p} => pe_var (by rw [d.hN]; rfl) (.inl d.sS) (by decide) (by decide)
  have vM : ∀ {p : Pos}, PE X (.Name "seed" p) (tVar 1) := fun {p} => pe_var (by rw [d.hN]; rfl) (.inl d.sM) (by decide) (by decide)
  have vF : ∀ {p : Pos}, PE X (.Name "cell" p) (tVar 2) := fun {p} => pe_var (by rw [d.hN]; rfl) (.inl d.sF) (by decide) (by decide)
  have ok : BlkOk X.N X.env.scope scS [((Str.ofString "cell"), 2)] := by
    rw [d.hN]
    refine ⟨rfl, by decide +kernel, by decide +kernel, fun y hy e => ?_, fun y hy e => ?_⟩
    · have q : (scS.names.all fun y => y.2 != .free) = true := by decide +kernel
      have q := List.all_eq_true.mp q y hy
      rw [e] at q
      exact absurd q (by decide)
    · have q : (scS.names.all fun y => (y.2 != .local && y.2 != .cell) || (decide (y.1 ∈ [Str.ofString "cell"]) || decide (y.1 ∉ (["script", "seed", "cell"] : List Str)))) = true := by decide +kernel
      have q := List.all_eq_true.mp q y hy
      rw [Bool.or_eq_true] at q
      rcases q with q | q
      · rcases e with e | e <;> (rw [e] at q; exact absurd q (by decide))
      · rw [Bool.or_eq_true] at q
        exact q.imp of_decide_eq_true of_decide_eq_true
  have bl : ∀ (s : Shared) (H : Hp) (C : Addr) (cl : List (Str × Addr)) (fp : List Addr) (x : Str) (k : NameKind), k ≠ .free → scS.names.lookup x = some k → (X.blk s H scS (compEnvC scS cl C X.env) fp).env.scope.names.lookup x = some k := fun s H C cl fp x k hk h => lookup_relS_keep hk h
  refine ⟨_, pss_cons (ps_set (i := 1) d.nd (by rw [d.hN]; rfl) (.inl d.sM) pe_int (by rfl) (.inr d.sM))
    (pss_cons (ps_for d.pass d.calm (pi_list (pe_slice sl_list vS po_none (po_some pe_int))) (pg_name (i := 2) d.nd (by rw [d.hN]; rfl) (.inl d.sF) (.inr d.sF))
      (pss_one (ps_set (i := 1) d.nd (by rw [d.hN]; rfl) (.inl d.sM) (pe_op op_add (pe_op op_modN (pe_callTy call_int1 d.gi d.mi (by decide +kernel) (pa_cons (pe_op op_add (pe_op op_mul vM pe_int) vF) pa_nil)) pe_int) pe_int) (by rfl) (.inr d.sM))))
    (pss_one (ps_ret (pe_lst (pa_cons (pe_lc (scope := scS) (own := [((Str.ofString "cell"), 2)]) d.calm d.nd (pi_list (pe_slice sl_list vS po_none (po_some pe_int))) ok
      (fun s H C cl fp => pg_name (i := 2) d.nd (by rw [d.hN]; rfl) (.inl (bl s H C cl fp _ _ (by decide) (by decide +kernel))) (.inr (bl s H C cl fp _ _ (by decide) (by decide +kernel)))) (fun s H C cl fp => pts_nil)
      (fun s H C cl fp => pe_callB call_abs (bl s H C cl fp _ _ (by decide) (by decide +kernel)) d.ma (by decide +kernel) (pa_cons (pe_callTy call_int1 (bl s H C cl fp _ _ (by decide) (by decide +kernel)) d.mi (by decide +kernel) (pa_cons (pe_var (i := 2) (by rw [d.hN]; rfl) (.inl (bl s H C cl fp _ _ (by decide) (by decide +kernel))) (by decide) (by decide)) pa_nil)) pa_nil)))
      (pa_cons pe_int (pa_cons pe_int (pa_cons pe_int (pa_cons vM (pa_cons pe_int pa_nil)))))))))), fun D a H Q hQ ⟨a', ns, ea, hs, hl, q⟩ => ?_⟩
  cases ea
  obtain ⟨ms, em, hml⟩ := cut_ints ns none (some 63)
  have kp : ∀ {H : Hp} {p : Addr} {o : HO}, H p = none → ∀ b u, H b = some u → L2.upd H p o b = some u := fun {H p o} hp b u e => by rw [upd_ne (ne_of_none e hp)]; exact e
  have sq : ∀ {H H' : Hp}, (∀ b o, H b = some o → H' b = some o) → SqL X.K H a (ns.map V.int) → SqL X.K H' a (ns.map V.int) := fun {H H'} k s => by
    rcases s with (s | ⟨o, s⟩) | s
    · exact .inl (.inl (k _ _ s))
    · exact .inl (.inr ⟨o, k _ _ s⟩)
    · exact .inr s
  refine ⟨.ref a, rfl, 63, rfl, a, _, rfl, hs, fun p hp => ⟨p, rfl, ⟨_, SqL.of upd_same⟩, ?_⟩⟩
  rw [em]
  have hs1 := sq (kp (o := .lst (ms.map V.int)) hp) hs
  generalize hH1 : L2.upd H p (.lst (ms.map V.int)) = H1 at hs1 ⊢
  have e1 : H1 p = some (.lst (ms.map V.int)) := by rw [← hH1]; exact upd_same
  have k1 : ∀ b o, H b = some o → H1 b = some o := by rw [← hH1]; exact kp hp
  refine for_it (walk_list (K := X.K) (a := p) (xs := ms.map V.int)) (fun i σ H2 => H2 = H1 ∧ ∃ (s : Int) (v : Option V), σ = [some (.ref a), some (.int s), v]) ⟨rfl, 7, none, rfl⟩ ?_ ?_ ?_
  · rintro i σ H2 hi ⟨rfl, _⟩
    exact SqL.of e1
  · rintro i x σ H2 H3 hi ⟨rfl, s, v, rfl⟩ ⟨rfl, hx⟩
    rw [List.getElem?_map] at hx
    cases hm : ms[i]? with
    | none => rw [hm] at hx; cases hx
    | some n =>
      rw [hm] at hx
      cases hx
      exact ⟨.int s, rfl, s, 48271, rfl, rfl, .inr (by decide), .int n, rfl, _, n, rfl, rfl, .inl ⟨_, rfl, _, 2147483629, rfl, rfl, (show (2147483629 : Int) ≠ 0 by decide), _, 1, rfl, rfl, rfl, _, _, rfl⟩⟩
  · rintro σ H2 ⟨rfl, s, v, rfl⟩
    refine ⟨.ref a, rfl, 63, rfl, a, _, rfl, hs1, fun p2 hp2 => ⟨p2, rfl, ⟨_, SqL.of upd_same⟩, fun Dd hD => ?_⟩⟩
    rw [em] at hD ⊢
    have k2 : ∀ b o, H b = some o → L2.upd H2 p2 (.lst (ms.map V.int)) b = some o := fun b o e => kp hp2 b o (k1 b o e)
    have e2 : L2.upd H2 p2 (.lst (ms.map V.int)) p2 = some (.lst (ms.map V.int)) := upd_same
    generalize L2.upd H2 p2 (.lst (ms.map V.int)) = H3 at hD k2 e2 ⊢
    refine lc_it (walk_list (K := X.K) (a := p2) (xs := ms.map V.int)) (fun i H4 => (∀ b o, H3 b = some o → H4 b = some o) ∧ ∃ js : List Int, js.length = i ∧ H4 Dd = some (.lst (js.map V.int))) ⟨kp hD, [], rfl, upd_same⟩ ?_ ?_ ?_
    · rintro i H4 hi ⟨k4, _⟩
      exact SqL.of (k4 _ _ e2)
    · rintro i x H4 H5 hi ⟨k4, js, hj, ej⟩ ⟨rfl, hx⟩
      rw [List.length_map] at hi
      rw [List.getElem?_map] at hx
      cases hm : ms[i]? with
      | none => rw [hm] at hx; cases hx
      | some n =>
        rw [hm] at hx
        cases hx
        refine ⟨rfl, ?_⟩
        refine ⟨.int n, rfl, .inl ⟨n, rfl, n, rfl, js.map V.int, ej, by rw [line_eq, List.length_map]; omega, fun b o e => ?_, js ++ [if n < 0 then -n else n], by rw [List.length_append, hj]; rfl, ?_⟩⟩
        · rw [upd_ne (ne_of_none e hD)]
          exact k4 b o e
        · rw [List.map_append]
          exact upd_same
    · rintro H4 ⟨k4, js, hj, ej⟩
      refine ⟨.int s, rfl, by rw [line_eq]; show 6 ≤ 16777216; decide, fun p3 hp3 => ?_⟩
      have none1 : ∀ {b}, H4 b = none → H b = none := fun {b} e => by
        cases q1 : H b with
        | none => rfl
        | some o => rw [k4 b o (k2 b o q1)] at e; cases e
      have hne : Dd ≠ p3 := ne_of_none ej hp3
      show D.rt _ _
      rw [hQ]
      refine q _ p3 Dd js s (fun b o e => ?_) (none1 hp3) ?_ (Ne.symm hne) ?_ upd_same
      · have e4 := k4 b o (k2 b o e)
        rw [upd_ne (ne_of_none e4 hp3)]
        exact e4
      · cases q1 : H Dd with
        | none => rfl
        | some o => rw [k2 _ o q1] at hD; cases hD
      · rw [upd_ne hne]
        exact ej
end
end RG
end

section
set_option Elab.async false
set_option linter.all false
set_option maxRecDepth 100000
set_option maxHeartbeats 4000000
/-! The law's own def, the end. -/
namespace RG
open PySem PySem.Spec PySem.Calls PyProof.Rows L2

/-! ### the beginning's promise -/
theorem start_ok {P : Program} {ww : World} {K : PySem.W.Frag} {mg : Str → Option Value} {base : Heap} {k : Nat} {f : Addr} {fd : FuncData} {qual x : Str} {st : Stmt} (D : FunD K x qual (defArgs st) (defBody st) (defScope st) [] [] f fd)
    (hs : fnScB (["script", "seed", "cell"] : List Str) (["script"] : List Str) (defScope st) = true) (hn : (defScope st).names = [(Str.ofString "script", NameKind.local), (Str.ofString "seed", NameKind.local), (Str.ofString "cell", NameKind.local), (Str.ofString "int", NameKind.globalImplicit)])
    (mi : mg "int" = none) (ma : mg "abs" = none)
    (hb : ∀ X : Cx, StX X → ∃ t, PSs X (defBody st) t ∧ ∀ D a H Q, D.rt = Q → spStart X.K [.ref a] H Q (fun _ _ _ => False) → t D [some (.ref a), none, none] H) : FnOk P ww K mg base L2.CX0 (k + 1) f fd ["script"] (spStart K) := by
  obtain ⟨oc, od, dV, kV, doc, pm, an, cdv, ct, osl, rfl, lk, hcd, _, _⟩ := D.ex
  have FS := fnScB_ok hs
  refine fn_of lk hcd FS (fun vs H Q E ⟨a, ns, e, _⟩ => by rw [e]; rfl) fun A outer s H vs Q E hr h => ?_
  have dx : StX (cxOf L2.CX0 P ww K mg base (["script", "seed", "cell"] : List Str) qual (defScope st) f cdv A outer s H E) := by
    refine ⟨rfl, FS.nd, ?_, ?_, ?_, ?_, mi, ma, rfl, PassesOwn.leaving⟩
    all_goals
      show (defScope st).names.lookup _ = _
      rw [hn]
      rfl
  obtain ⟨t, h1, h2⟩ := hb _ dx
  obtain ⟨a, ns, e, h⟩ := h
  subst e
  exact ⟨t, h1, h2 _ a H Q rfl ⟨a, ns, rfl, h⟩⟩

/-! ### the law's def -/
def spLaw (K : PySem.W.Frag) : List V → Hp → VK → Prop := fun vs H Q => ∃ (a : Addr) (ns : List Int), vs = [.ref a] ∧ SqL K H a (ns.map V.int) ∧ ns.length ≤ 16777216 ∧ ∀ H', Q (.bl true) H'
def rho0 : Rho := [.no, .st, .no]
theorem law_run {P : Program} {ww : World} {K : PySem.W.Frag} {mg : Str → Option Value} {base : Heap} {tb : Tb} {Φ : Calls} {k m : Nat} {f fS : Addr} {fd fdS : FuncData} {qual x : Str} {st : Stmt} {rest : List Stmt} {body : Sx} {p1 p2 p3 p4 p5 : Pos}
    (A0 : Around0 P ww K mg base tb Φ k) (D : FunD K x qual (defArgs st) (defBody st) (defScope st) [] [] f fd) (hs : fnScB (["script", "state", "turn"] : List Str) (["script"] : List Str) (defScope st) = true)
    (hb : defBody st = .Assign [.Name "state" p1] (.Call (.Name "_law_start" p2) [.Name "script" p3] [] p4) p5 :: rest) (hm : mSs tb (["script", "state", "turn"] : List Str) (defScope st) body rest = true)
    (hl : (defScope st).names.lookup ("state" : Str) = some NameKind.local) (hl2 : (defScope st).names.lookup ("script" : Str) = some NameKind.local) (hg : (defScope st).names.lookup ("_law_start" : Str) = some NameKind.globalImplicit)
    (gS : mg "_law_start" = some (.ref fS)) (kS : PySem.W.keepIn K (.ref fS) = true) (bS : Binds K fdS ["script"] []) (FS : FnOk P ww K mg base L2.CX0 (m + 1) fS fdS ["script"] (spStart K)) (hmk : m + 1 ≤ k)
    (plain : ((ex Φ body rho0).bind outV).wp 1000000 fun d _ => d = .bool true)
    (A : Around) (outer : List Env) (s : Shared) (H : Hp) (args : Args) (us : List Value) (vs : List V) (Q : VK) (E : XK) (hr : Room (k + 1) A) (hgd : A.guards = some []) (e0 : Env0 P ww K mg base A outer s H) (hbi : BindsTo s fd args ((["script"] : List Str).zip us)) (r : Vals vs us) (hsp : spLaw K vs H Q) :
    codeAny (model P ww) A (.call (.ref f) args) (CR CX0 outer P ww H s Q E) s := by
  obtain ⟨oc, od, dV, kV, doc, pm, an, cdv, ct, osl, rfl, lk, hcd, _, _⟩ := D.ex
  have FSc := fnScB_ok hs
  refine fn_ofS lk hcd FSc (ps := ["script"]) (sp := spLaw K) (fun vs H Q ⟨a, ns, e, _⟩ => by rw [e]; rfl) (fun A outer s H vs Q E hr hgd ⟨a, ns, e, h1, h2, q⟩ => ?_) A outer s H args us vs Q E hr hgd e0 hbi r hsp
  subst e
  have G : GoodS tb (["script", "state", "turn"] : List Str) Φ k (cxOf CX0 P ww K mg base (["script", "state", "turn"] : List Str) qual (defScope st) f cdv A outer s H E) (defScope st) :=
    ⟨⟨rfl, FSc.nd, rfl, hr, hgd, A0.gs, A0.bs, A0.fs⟩, rfl, fun _ => rfl, FSc.kind, PassesOwn.leaving⟩
  rw [hb]
  refine ⟨_, pss_cons (ps_set (i := 1) FSc.nd rfl (.inl hl) (pe_call (CX := L2.CX0) (E := L2.E0) (dvs := []) (ds := []) FS (hr.mono hmk) hg gS kS bS .nil (fun _ _ _ _ _ _ _ z => False.elim z) (pa_cons (pe_var (i := 0) rfl (.inl hl2) (by decide) (by decide)) pa_nil) (by decide) rfl rfl) rfl (.inl rfl)) ((sndS body).f2 _ _ _ G hm), ?_⟩
  refine ⟨.ref a, rfl, a, ns, rfl, h1, h2, fun H' p c ms z k1 hp hc hpc ec ep => ?_⟩
  have c0 : Ctx (fun b => b = p ∨ b = c) (fun b => b = p ∨ b = c) H' := ⟨fun _ h => h, fun b h => by
    rcases h with h | h
    · rw [h, ep]; simp
    · rw [h, ec]; simp⟩
  have stA : StA (fun b => b = p ∨ b = c) 1000000 H' p := ⟨.inl rfl, c, ms, 0, 0, 0, z, 0, .inr rfl, hpc, ep, ec, by decide, by decide, by decide, by decide⟩
  refine ⟨fun b => b = p ∨ b = c, fun b => b = p ∨ b = c, H', 1000000, fun _ => False, 1000000, rho0, ⟨c0, .refl, fun _ h => h.elim, ⟨rfl, fun i d e => ?_, fun i d e => ?_, fun i e => ?_, fun i j a d e' hij h1 _ _ => ?_⟩, fun i d a e _ => ?_⟩, T.wp_mono (fun p' b' w => ?_) (T.wp_bind.mp plain)⟩
  · match i, e with
    | 0, e => cases e
    | 1, e => cases e
    | 2, e => cases e
    | i + 3, e => cases e
  · match i, e with
    | 0, e => cases e
    | 1, e => cases e
    | 2, e => cases e
    | i + 3, e => cases e
  · match i, e with
    | 0, e => cases e
    | 1, e => exact ⟨p, rfl, stA⟩
    | 2, e => cases e
    | i + 3, e => cases e
  · match i, h1 with
    | 0, e => cases e
    | 1, e => cases e
    | 2, e => cases e
    | i + 3, e => cases e
  · match i, e with
    | 0, e => cases e
    | 1, e => cases e
    | 2, e => cases e
    | i + 3, e => cases e
  · intro O' σ' H2 r2
    obtain ⟨f, ρ⟩ := p'
    cases f with
    | nx =>
      have w : PyData.none = .bool true := w
      cases w
    | rt d =>
      have w : d = .bool true := w
      subst w
      intro v hv
      cases hv
      exact q H2
    | bk => exact w.elim
    | ct => exact w.elim

/-! ### the end -/
theorem law_end {P : Program} {w : World} {K : PySem.W.Frag} {mg mb : Str → Option Value} {fa a : Addr} {s₁ : Shared} {vs : List Value} {ns : List Int}
    (KX : K.In s₁.heap) (hns : s₁.heap.Ns mainGlobals mg) (hb : s₁.heap.Ns builtinsNs mb) (hbb : ∀ x : Str, x ≠ "__name__" → mb x = bootBuiltins x) (hlim : s₁.heap.NoLimit) (hg : s₁.gens = #[])
    (ha : s₁.heap.get? a = some { cls := .type "list", data := .seq vs.toArray }) (hi : IntsAre vs ns) (hl : ns.length ≤ 16777216)
    (F : ∀ base : Heap, Mod K mg base → ∀ (s : Shared) (H : Hp) (us : List Value) (ws : List V) (Q : VK) (E : XK), Env0 P w K mg base callerA [] s H → Vals ws us → spLaw K ws H Q → us.length = 1 → codeAny (model P w) callerA (.call (.ref fa) ⟨us, []⟩) (CR CX0 [] P w H s Q E) s) :
    codeAny (model P w) callerA (.call (.ref fa) ⟨[.ref a], []⟩) (fun r s' => r = .ok (.ret (.bool true)) ∧ OldK s₁.heap s'.heap ∧ s'.os = s₁.os ∧ AllBare s'.gens) s₁ := by
  have rv := vals_ints hi
  have lenV := hi.length
  have core : ∀ H : Hp, (∀ b, H b = none ∨ ∃ o xs, H b = some (.frz o (.lst xs))) → SqL K H a (ns.map V.int) → HOk P w H s₁.heap → (∀ b, H b ≠ none → b = a) → (H a ≠ none → K.lookup a = none) →
      codeAny (model P w) callerA (.call (.ref fa) ⟨[.ref a], []⟩) (fun r s' => r = .ok (.ret (.bool true)) ∧ OldK s₁.heap s'.heap ∧ s'.os = s₁.os ∧ AllBare s'.gens) s₁ := by
    intro H hO hS hok hA hK
    have nsK : ∀ {b : Addr} {m : Str → Option Value}, s₁.heap.Ns b m → (hidT s₁.heap H).Ns b m := fun {b m} ⟨o, es, ep, e, d, r⟩ => by
      refine ⟨o, es, ep, hidT_get e ?_, d, r⟩
      cases q : H b with
      | none => rfl
      | some u =>
        have e' : b = a := hA b (by rw [q]; simp)
        subst e'
        rw [ha] at e; cases e
        have d' : Data.seq vs.toArray _ = Data.dict es ep := d
        cases d'
    have hKb : K.In (hidT s₁.heap H) := fun b o e => hidT_get (KX b o e) (by
      cases q : H b with
      | none => rfl
      | some u =>
        have e' : b = a := hA b (by rw [q]; simp)
        subst e'
        rw [hK (by rw [q]; simp)] at e; cases e)
    have hM : Mod K mg (hidT s₁.heap H) := ⟨hKb, nsK hns, ⟨mb, nsK hb, hbb⟩, let ⟨mc, h1, h2⟩ := hlim; ⟨mc, nsK h1, h2⟩⟩
    have e0 : Env0 P w K mg (hidT s₁.heap H) callerA [] s₁ H := ⟨rfl, hM, fun b o e => of_hidT e, Nat.le_of_eq (hidT_size _ _), trivial, fun b hb => absurd (show b ∈ ([] : List Addr) from hb) (by simp), hok, .of_eq hg⟩
    refine codeAny_mono (F _ hM s₁ H [.ref a] [.ref a] (fun v _ => v = .bl true) (fun _ _ _ => False) e0 (.cons rfl .nil) ⟨a, ns, rfl, hS, hl, fun _ => rfl⟩ rfl) fun r s' h => ?_
    cases r with
    | error e => exact False.elim h
    | ok fl =>
      cases fl with
      | next => exact False.elim h
      | brk => exact False.elim h
      | cont => exact False.elim h
      | ret u =>
        obtain ⟨v, H', os, bare, un, hok', r', q⟩ := h
        have q' : v = .bl true := q
        subst q'
        obtain rfl : u = Value.bool true := r'
        refine ⟨rfl, OldK.of_keep fun b o e => ?_, os, bare⟩
        rcases hO b with z | ⟨ob, xs, z⟩
        · exact un.keep b o e z (by intro z; exact absurd (show b ∈ ([] : List Addr) from z) (by simp)) (by simp)
        · have z2 := un.frzs b ob _ z
          obtain ⟨e1, _⟩ := hok b _ z
          obtain ⟨e2, _⟩ := hok' b _ z2
          rw [e] at e1; cases e1
          exact e2
  have hl' : ns.length ≤ sizeLine := by rw [line_eq]; exact hl
  cases hk : K.lookup a with
  | some o =>
    have e := KX a o hk
    rw [ha] at e
    cases e
    exact core (fun _ => none) (fun _ => .inl rfl) (.inr ⟨_, vs.toArray, _, hk, rfl, rfl, rfl, by rw [List.size_toArray, lenV]; exact hl', by simpa using rv⟩) (fun b u z => by have z' : (none : Option HO) = some u := z; cases z') (fun b z => absurd rfl z) fun z => absurd rfl z
  | none =>
    refine core (fun b => if b = a then some (.frz { cls := .type "list", data := .seq vs.toArray } (.lst (ns.map V.int))) else none) (fun b => ?_) (.inl (.inr ⟨{ cls := .type "list", data := .seq vs.toArray }, if_pos rfl⟩)) (fun b u z => ?_) (fun b z => ?_) fun _ => hk
    · by_cases hb : b = a
      · exact .inr ⟨_, _, if_pos hb⟩
      · exact .inl (if_neg hb)
    · by_cases hb : b = a
      · have z' := (if_pos hb).symm.trans z
        cases z'
        subst hb
        exact ⟨ha, by rw [List.length_map]; exact hl', vs, _, rv, ha⟩
      · have z' := (if_neg hb).symm.trans z
        cases z'
    · by_cases hb : b = a
      · exact hb
      · exact absurd (if_neg hb) z
/-- a law, from its facts: F gives the written part and, over every base, the run of the law's def -/
theorem walk_ofG {l : PySem.W.OpenLaw} {n : Nat} {q : Program} {loose : List Str} {XP : (Str → Option Value) → Heap → Prop} {YP : World → Heap → Prop} {d : DefRec}
    (hn : l.most = some n) (hn2 : n ≤ 16777216) (hdf : d.params.defaults = [])
    (F : ∀ (w : World) (mg : Str → Option Value) (fa : Addr) (h : Heap), YP w h → h.Ns mainGlobals mg → mg d.name = some (.ref fa) →
      ∃ K : PySem.W.Frag, K.In h ∧ ∀ base : Heap, Mod K mg base → ∀ (s : Shared) (H : Hp) (us : List Value) (ws : List V) (Q : VK) (E : XK), Env0 l.prog w K mg base callerA [] s H → Vals ws us → spLaw K ws H Q → us.length = 1 → codeAny (model l.prog w) callerA (.call (.ref fa) ⟨us, []⟩) (CR CX0 [] l.prog w H s Q E) s) :
    PySem.W.WalkO q loose XP YP l.row.toRowW d [] (fun f vs => PySem.call f vs) := by
  refine Att.attach_call hn hdf fun w s₀ s₁ mg mb fa o pm cd doc a vs ns G Y ho hd hcd hmg hobj hints hlen hg => ?_
  obtain ⟨K, KX, hF⟩ := F w mg fa _ Y G.T.g hmg
  exact law_end KX G.T.g G.T.b G.T.builtins G.T.nolimit hg hobj hints (Nat.le_trans hlen hn2) hF
end RG
end

section
set_option Elab.async false
set_option linter.all false
set_option maxRecDepth 100000
set_option maxHeartbeats 4000000
/-! The table from the facts behind the top. -/
namespace RG
open PySem PySem.Spec PySem.Calls PyProof.Rows L2
def dOf (st : Stmt) (x : Str) : He.DefD := ⟨(x, none), x, x, defArgs st, defBody st, defScope st, [], []⟩
theorem inTab_of {K : PySem.W.Frag} {mg : Str → Option Value} {tb : Tb} {tab : List Fd} {x : Str} {F : Fd} {st : Stmt} {fn : List He.DefD} {fa : List He.Fa} {h : Heap} (X : K.In h) (G : h.Ns mainGlobals mg) (c : He.SaysD fa fn K) (i j : Nat) (hi : fn[i]? = some (dOf st x)) (hj : fa[j]? = some (.glo x))
    (hf : tab.find? (fun F => F.name == x) = some F) (hb : ∀ (kV doc pm : Value) (an : Option Addr) (cdv ct : Value) (us : List Value), us.length = F.ps.length → bindArgs (PySem.W.fnOf x x (defArgs st) (defBody st) (defScope st) .none kV doc pm an cdv ct) ⟨us, []⟩ = pure (F.ps.zip us))
    (hc : (fnScB F.N F.ps (defScope st) && mSs tb F.N (defScope st) F.body (defBody st)) = true) : InTab K mg tb tab x := by
  obtain ⟨fd, D⟩ := c.def_ i hi
  have D : FunD K x x (defArgs st) (defBody st) (defScope st) [] [] (He.fAd K (x, none)) fd := D
  rw [Bool.and_eq_true] at hc
  exact ⟨F, st, _, fd, hf, D, He.glo_ok X G (c.fact j hj), D.bindsN hb, hc.1, hc.2⟩
end RG
end

section
set_option Elab.async false
set_option linter.all false
set_option maxRecDepth 100000
set_option maxHeartbeats 4000000
/-! Plain tools: values, rows, equality, texts' lengths. -/
namespace RG
open PySem

/-! ### rows of ints -/
abbrev iL (ns : List Int) : List PyData := ns.map PyData.int
theorem asInts_iL : ∀ ns : List Int, asInts (iL ns) = some ns
  | [] => rfl
  | n :: ns => by
    show (asInts (iL ns)).map (n :: ·) = _
    rw [asInts_iL ns]
    rfl
theorem asBools_map : ∀ ns : List Bool, asBools (ns.map PyData.bool) = some ns
  | [] => rfl
  | n :: ns => by
    show (asBools (ns.map PyData.bool)).map (n :: ·) = _
    rw [asBools_map ns]
    rfl
theorem lcG_fm {f : PyData → T (Option PyData)} {g : PyData → Option PyData} : ∀ {ds : List PyData}, (∀ d ∈ ds, f d = .ret (g d)) → lcG f ds = .ret (ds.filterMap g)
  | [], _ => rfl
  | d :: ds, h => by
    unfold lcG
    rw [h d List.mem_cons_self, lcG_fm fun d q => h d (List.mem_cons_of_mem _ q), List.filterMap_cons]
    cases g d <;> rfl
theorem lcG_map {f : PyData → T (Option PyData)} {g : PyData → PyData} {ds : List PyData} (h : ∀ d ∈ ds, f d = .ret (some (g d))) : lcG f ds = .ret (ds.map g) := by
  rw [lcG_fm h]
  congr 1
  induction ds with
  | nil => rfl
  | cons d ds ih => rw [List.filterMap_cons, List.map_cons, ih fun d q => h d (List.mem_cons_of_mem _ q)]
/-- over a row that is given by a map -/
theorem lcG_over {α : Type} {f : PyData → T (Option PyData)} {m : α → PyData} {g : α → PyData} {xs : List α} (h : ∀ x ∈ xs, f (m x) = .ret (some (g x))) : lcG f (xs.map m) = .ret (xs.map g) := by
  induction xs with
  | nil => rfl
  | cons d ds ih =>
    rw [List.map_cons, List.map_cons]
    unfold lcG
    rw [h d List.mem_cons_self, ih fun d q => h d (List.mem_cons_of_mem _ q)]
    rfl
theorem lcG_if {α : Type} {f : PyData → T (Option PyData)} {m : α → PyData} {p : α → Bool} {g : α → PyData} {xs : List α} (h : ∀ x ∈ xs, f (m x) = .ret (if p x then some (g x) else none)) : lcG f (xs.map m) = .ret ((xs.filter p).map g) := by
  induction xs with
  | nil => rfl
  | cons d ds ih =>
    rw [List.map_cons, List.filter_cons]
    unfold lcG
    rw [h d List.mem_cons_self, ih fun d q => h d (List.mem_cons_of_mem _ q)]
    cases p d <;> rfl
/-- each item is drawn -/
theorem wp_draws {f : PyData → T (Option PyData)} {m : Int} (hm : 0 < m) (hm2 : m < 1073741824) {g : Int → PyData} : ∀ {ds : List PyData} {b : Nat} {Q : List PyData → Nat → Prop}, (∀ d ∈ ds, f d = .draw m fun x => .ret (some (g x))) → ds.length ≤ b →
    (∀ ys : List Int, ys.length = ds.length → (∀ y ∈ ys, 0 ≤ y ∧ y < m) → Q (ys.map g) (b - ds.length)) → (lcG f ds).wp b Q
  | [], b, Q, _, _, q => q [] rfl (by simp)
  | d :: ds, b, Q, h, hb, q => by
    unfold lcG
    rw [h d List.mem_cons_self]
    rw [List.length_cons] at hb
    refine ⟨⟨hm, hm2, by omega⟩, fun x h0 h1 => ?_⟩
    show ((lcG f ds).bind fun r => T.ret (g x :: r)).wp (b - 1) Q
    rw [T.wp_bind]
    refine wp_draws hm hm2 (fun d q => h d (List.mem_cons_of_mem _ q)) (by omega) fun ys hl hy => ?_
    have := q (x :: ys) (by rw [List.length_cons, List.length_cons, hl]) (fun y hy' => by
      rcases List.mem_cons.mp hy' with z | z
      · rw [z]; exact ⟨h0, h1⟩
      · exact hy y z)
    rw [List.length_cons, show b - (ds.length + 1) = b - 1 - ds.length by omega] at this
    exact this

/-! ### equality -/
mutual
def nob : PyData → Bool
  | .none => true
  | .bool _ => false
  | .int _ => true
  | .str _ => true
  | .list xs => nobL xs
  | .tuple xs => nobL xs
  | .dict _ => false
def nobL : List PyData → Bool
  | [] => true
  | x :: xs => nob x && nobL xs
end
mutual
theorem eqv_iff : ∀ (x y : PyData), nob x = true → nob y = true → (PyData.eqv x y = true ↔ x = y)
  | .none, y, _, hy => by cases y <;> simp [PyData.eqv]
  | .bool _, y, h, _ => nomatch (show false = true from h)
  | .dict _, y, h, _ => nomatch (show false = true from h)
  | .int i, y, _, hy => by
    cases y with
    | bool b => exact nomatch (show false = true from hy)
    | _ => simp [PyData.eqv]
  | .str i, y, _, hy => by cases y <;> simp [PyData.eqv]
  | .list xs, y, hx, hy => by
    cases y with
    | list ys =>
      have h := eqvAll_iff xs ys hx hy
      simp only [PyData.eqv, h, PyData.list.injEq]
    | _ => simp [PyData.eqv]
  | .tuple xs, y, hx, hy => by
    cases y with
    | tuple ys =>
      have h := eqvAll_iff xs ys hx hy
      simp only [PyData.eqv, h, PyData.tuple.injEq]
    | _ => simp [PyData.eqv]
theorem eqvAll_iff : ∀ (xs ys : List PyData), nobL xs = true → nobL ys = true → (PyData.eqvAll xs ys = true ↔ xs = ys)
  | [], ys, _, _ => by cases ys <;> simp [PyData.eqvAll]
  | x :: xs, ys, hx, hy => by
    cases ys with
    | nil => simp [PyData.eqvAll]
    | cons y ys =>
      have hx : (nob x && nobL xs) = true := hx
      have hy : (nob y && nobL ys) = true := hy
      rw [Bool.and_eq_true] at hx hy
      have h1 := eqv_iff x y hx.1 hy.1
      have h2 := eqvAll_iff xs ys hx.2 hy.2
      simp only [PyData.eqvAll, Bool.and_eq_true, h1, h2, List.cons.injEq]
end
theorem nobL_iff : ∀ {xs : List PyData}, nobL xs = true ↔ ∀ x ∈ xs, nob x = true
  | [] => by simp [nobL]
  | x :: xs => by simp [nobL, nobL_iff (xs := xs)]
theorem nobL_iL (ns : List Int) : nobL (iL ns) = true := nobL_iff.mpr fun x hx => by
  obtain ⟨i, _, rfl⟩ := List.mem_map.mp hx
  rfl
/-- equality of values that hold no bool -/
theorem cmp_eq {x y : PyData} (h : okEq x y = true) (hx : nob x = true) (hy : nob y = true) [Decidable (x = y)] : cmpOp .Eq x y = .ret (decide (x = y)) := by
  show T.chk (okEq x y) (.ret (PyData.eqv x y)) = _
  rw [h]
  show T.ret _ = _
  congr 1
  rw [Bool.eq_iff_iff, eqv_iff x y hx hy, decide_eq_true_eq]
theorem cmp_ne {x y : PyData} (h : okEq x y = true) (hx : nob x = true) (hy : nob y = true) [Decidable (x = y)] : cmpOp .NotEq x y = .ret (!decide (x = y)) := by
  show T.chk (okEq x y) (.ret (!PyData.eqv x y)) = _
  rw [h]
  show T.ret _ = _
  congr 2
  rw [Bool.eq_iff_iff, eqv_iff x y hx hy, decide_eq_true_eq]
/-! shaped -/
theorem canLayAll_iff : ∀ {xs : List PyData}, PyData.canLayAll0 xs = true ↔ ∀ x ∈ xs, x.canLay0 = true
  | [] => by simp [PyData.canLayAll0]
  | x :: xs => by simp [PyData.canLayAll0, canLayAll_iff (xs := xs)]
theorem depthAll_le : ∀ {xs : List PyData} {n : Nat}, (∀ x ∈ xs, x.depth ≤ n) → PyData.depthAll xs ≤ n
  | [], n, _ => Nat.zero_le _
  | x :: xs, n, h => by
    show max x.depth (PyData.depthAll xs) ≤ n
    have h1 := h x List.mem_cons_self
    have h2 := depthAll_le (xs := xs) fun y q => h y (List.mem_cons_of_mem _ q)
    omega
/-- may be compared, at most so deep -/
def sh (n : Nat) (d : PyData) : Prop := d.canLay0 = true ∧ d.depth ≤ n
theorem sh_int {n : Nat} {i : Int} : sh n (.int i) := ⟨rfl, Nat.zero_le _⟩
theorem sh_bool {n : Nat} {i : Bool} : sh n (.bool i) := ⟨rfl, Nat.zero_le _⟩
theorem sh_none {n : Nat} : sh n .none := ⟨rfl, Nat.zero_le _⟩
theorem sh_tuple {n : Nat} {xs : List PyData} (h : ∀ x ∈ xs, sh n x) : sh (n + 1) (.tuple xs) := ⟨canLayAll_iff.mpr fun x q => (h x q).1, Nat.succ_le_succ (depthAll_le fun x q => (h x q).2)⟩
theorem sh_list {n : Nat} {xs : List PyData} (h : ∀ x ∈ xs, sh n x) : sh (n + 1) (.list xs) := ⟨canLayAll_iff.mpr fun x q => (h x q).1, Nat.succ_le_succ (depthAll_le fun x q => (h x q).2)⟩
theorem sh_iL {n : Nat} {ns : List Int} : ∀ x ∈ iL ns, sh n x := fun x h => by
  obtain ⟨i, _, rfl⟩ := List.mem_map.mp h
  exact sh_int
theorem shaped_sh {n : Nat} {d : PyData} (h : sh n d) (hn : n ≤ 64) : SeqAt.shaped d = true := by
  unfold SeqAt.shaped
  rw [Bool.and_eq_true, decide_eq_true_eq]
  exact ⟨h.1, Nat.le_trans h.2 hn⟩
theorem okEq_sh {n m : Nat} {x y : PyData} (hx : sh n x) (hy : sh m y) (hn : n ≤ 64) (hm : m ≤ 64) : okEq x y = true := by
  unfold okEq
  rw [shaped_sh hx hn, shaped_sh hy hm]
  simp
end RG
end

section
set_option Elab.async false
set_option linter.all false
set_option maxRecDepth 100000
set_option maxHeartbeats 4000000
/-! Plain tools: the length of what repr gives. -/
namespace RG
open PySem

theorem tuple_text_le (ts : List Str) : (tupleText ts).length ≤ piled ts + 3 := by
  unfold tupleText
  rw [strLen_append, strLen_append]
  have e1 : ((("(" : String) : Str)).length = 1 := rfl
  have e3 : (((if ts.length == 1 then ",)" else ")" : String) : Str)).length ≤ 2 := by split <;> decide
  rw [e1]
  by_cases h : ts = []
  · subst h
    have e4 : (Str.join ", " ([] : List Str)).length = 0 := rfl
    rw [e4]
    omega
  · have := join_length_add ts h
    omega
theorem list_text_le (ts : List Str) : (listText ts).length ≤ piled ts + 2 := by
  unfold listText
  rw [strLen_append]
  have e1 : ((("]" : String) : Str)).length = 1 := rfl
  rw [e1]
  cases ts with
  | nil => decide
  | cons t r =>
    have e : textFrom 0 "[" (t :: r) = textFrom 1 (("[" : Str) ++ t) r := rfl
    rw [e, textFrom_length_pos r 1 _ (by decide), strLen_append, piled_cons]
    have e2 : ((("[" : String) : Str)).length = 1 := rfl
    rw [e2]
    omega
/-- may be shown: at most so long, so deep -/
def rk (M n : Nat) (d : PyData) : Prop := d.showable = true ∧ d.hasDict = false ∧ d.depth ≤ n ∧ d.shown.length ≤ M
theorem rk_int {M n : Nat} {i : Int} (h : i.natAbs.log2 < 1920) (hM : i.natAbs.log2 + 2 ≤ M) : rk M n (.int i) := by
  refine ⟨by show decide _ = true; exact decide_eq_true h, rfl, Nat.zero_le _, ?_⟩
  show (Str.ofString (toString i)).length ≤ M
  have := int_text_length_le (a := i) (k := i.natAbs.log2 + 1) (by omega) (by omega)
  rw [ofString_length]
  omega
theorem rk_small {M n : Nat} {i : Int} (h : i.natAbs < 2 ^ 64) (hM : 66 ≤ M) : rk M n (.int i) := by
  have h2 : i.natAbs.log2 < 64 := by
    by_cases z : i.natAbs = 0
    · rw [z]; decide
    · exact (Nat.log2_lt z).mpr h
  exact rk_int (by omega) (by omega)
theorem rk_none {M n : Nat} (h : 4 ≤ M) : rk M n .none := ⟨rfl, rfl, Nat.zero_le _, Nat.le_trans (by decide) h⟩
theorem rk_bool {M n : Nat} {b : Bool} (h : 5 ≤ M) : rk M n (.bool b) := ⟨rfl, rfl, Nat.zero_le _, Nat.le_trans (by cases b <;> decide) h⟩
theorem showAll_iff : ∀ {xs : List PyData}, PyData.showableAll xs = true ↔ ∀ x ∈ xs, x.showable = true
  | [] => by simp [PyData.showableAll]
  | x :: xs => by simp [PyData.showableAll, showAll_iff (xs := xs)]
theorem piled_le {M : Nat} : ∀ {xs : List PyData}, (∀ x ∈ xs, x.shown.length ≤ M) → piled (PyData.shownAll xs) ≤ xs.length * (M + 2)
  | [], _ => Nat.zero_le _
  | x :: xs, h => by
    have e : PyData.shownAll (x :: xs) = x.shown :: PyData.shownAll xs := rfl
    rw [e, piled_cons, List.length_cons, Nat.succ_mul]
    have h1 := h x List.mem_cons_self
    have h2 := piled_le (M := M) (xs := xs) fun y q => h y (List.mem_cons_of_mem _ q)
    omega
theorem hasAll_iff : ∀ {xs : List PyData}, PyData.hasDictAll xs = false ↔ ∀ x ∈ xs, x.hasDict = false
  | [] => by simp [PyData.hasDictAll]
  | x :: xs => by simp [PyData.hasDictAll, hasAll_iff (xs := xs)]
theorem rk_tuple {M M' n : Nat} {xs : List PyData} (h : ∀ x ∈ xs, rk M n x) (hM : xs.length * (M + 2) + 3 ≤ M') : rk M' (n + 1) (.tuple xs) := by
  refine ⟨showAll_iff.mpr fun x q => (h x q).1, hasAll_iff.mpr fun x q => (h x q).2.1, Nat.succ_le_succ (depthAll_le fun x q => (h x q).2.2.1), ?_⟩
  have h1 := tuple_text_le (PyData.shownAll xs)
  have h2 := piled_le (M := M) fun x q => (h x q).2.2.2
  show (tupleText (PyData.shownAll xs)).length ≤ M'
  omega
theorem rk_list {M M' n : Nat} {xs : List PyData} (h : ∀ x ∈ xs, rk M n x) (hM : xs.length * (M + 2) + 3 ≤ M') : rk M' (n + 1) (.list xs) := by
  refine ⟨showAll_iff.mpr fun x q => (h x q).1, hasAll_iff.mpr fun x q => (h x q).2.1, Nat.succ_le_succ (depthAll_le fun x q => (h x q).2.2.1), ?_⟩
  have h1 := list_text_le (PyData.shownAll xs)
  have h2 := piled_le (M := M) fun x q => (h x q).2.2.2
  show (listText (PyData.shownAll xs)).length ≤ M'
  omega
theorem rok_rk {M n : Nat} {d : PyData} (h : rk M n d) (hM : M ≤ 16777216) (hn : n ≤ 64) : rok d = true := by
  obtain ⟨h1, h2, h3, h4⟩ := h
  unfold rok small
  rw [h1, h2, decide_eq_true (Nat.le_trans h3 hn), decide_eq_true (Nat.le_trans h4 hM)]
  rfl
end RG
end

section
set_option Elab.async false
set_option linter.all false
set_option maxRecDepth 100000
set_option maxHeartbeats 4000000
/-! Plain tools: a body, statement by statement. -/
namespace RG
open PySem
/-- a def's body as a value -/
def go (Φ : Calls) (s : Sx) (ρ : Rho) : T PyData := (ex Φ s ρ).bind outV
section
variable {Φ : Calls} {s r a b : Sx} {ρ ρ' : Rho} {e c it : E} {d : PyData} {i : Nat} {tg : Tg} {f : Fl}
theorem go_def {F : Fd} {xs : List Sl} (h : (xs.length == F.ps.length) = true) : runF Φ F xs = go Φ F.body (RG.start F xs) := by
  unfold runF go
  rw [h]
  rfl
theorem go_nx (h : ex Φ s ρ = .ret (.nx, ρ')) : go Φ (.cons s r) ρ = go Φ r ρ' := by
  show (((ex Φ s ρ).bind _).bind outV) = _
  rw [h]
  rfl
theorem go_rt (h : ex Φ s ρ = .ret (.rt d, ρ')) : go Φ (.cons s r) ρ = .ret d := by
  show (((ex Φ s ρ).bind _).bind outV) = _
  rw [h]
  rfl
theorem go_end : go Φ .nil ρ = .ret .none := rfl
theorem go_asg (h : ev Φ e ρ = .ret d) : go Φ (.cons (.asg i false e) r) ρ = go Φ r (ρ.set i (.va d)) := go_nx (by
  show (ev Φ e ρ).bind _ = _
  rw [h]
  rfl)
theorem go_asgS {ρ2 : Rho} (h : ev Φ e ρ = .ret d) (h2 : ρ.set i (.va d) = ρ2) : go Φ (.cons (.asg i false e) r) ρ = go Φ r ρ2 := by
  rw [go_asg h, h2]
theorem go_asgO {ds : List PyData} (h : ev Φ e ρ = .ret (.list ds)) (hf : isFr e = true) : go Φ (.cons (.asg i true e) r) ρ = go Φ r (ρ.set i (.ow (.list ds))) := go_nx (by
  show (ev Φ e ρ).bind _ = _
  rw [h, hf]
  rfl)
theorem go_asgT (h : ev Φ e ρ = .ret d) (h2 : asgT tg d ρ = .ret ρ') : go Φ (.cons (.asgT tg e) r) ρ = go Φ r ρ' := go_nx (by
  show (ev Φ e ρ).bind _ = _
  rw [h]
  show (asgT tg d ρ).bind _ = _
  rw [h2]
  rfl)
theorem go_asgP {ts : List (Nat × Bool)} {xs : List Sl} (h : evC Φ e ρ = .ret xs) (h2 : RG.setP ts (frs e) xs ρ = .ret ρ') : go Φ (.cons (.asgP ts e) r) ρ = go Φ r ρ' := go_nx (by
  show (evC Φ e ρ).bind _ = _
  rw [h]
  show (RG.setP ts (frs e) xs ρ).bind _ = _
  rw [h2]
  rfl)
theorem go_exe (h : ev Φ e ρ = .ret d) : go Φ (.cons (.exe e) r) ρ = go Φ r ρ := go_nx (by
  show (ev Φ e ρ).bind _ = _
  rw [h]
  rfl)
theorem go_no (h : evT Φ c ρ = .ret false) : go Φ (.cons (.ite c a .nil) r) ρ = go Φ r ρ := go_nx (by
  show (evT Φ c ρ).bind _ = _
  rw [h]
  rfl)
theorem go_yes (h : evT Φ c ρ = .ret true) (h2 : ex Φ a ρ = .ret (.nx, ρ')) : go Φ (.cons (.ite c a b) r) ρ = go Φ r ρ' := go_nx (by
  show (evT Φ c ρ).bind _ = _
  rw [h]
  exact h2)
theorem go_yesR (h : evT Φ c ρ = .ret true) (h2 : ev Φ e ρ = .ret d) (hv : rdOf e (ev Φ e ρ) ρ = ev Φ e ρ) : go Φ (.cons (.ite c (.cons (.ret e) .nil) b) r) ρ = .ret d := go_rt (ρ' := ρ) (by
  show (evT Φ c ρ).bind _ = _
  rw [h]
  show ((((rdOf e (ev Φ e ρ) ρ).bind fun d => T.ret (Fl.rt d, ρ))).bind _) = _
  rw [hv, h2]
  rfl)
theorem go_ret (h : rdOf e (ev Φ e ρ) ρ = .ret d) : go Φ (.cons (.ret e) r) ρ = .ret d := go_rt (ρ' := ρ) (by
  show (rdOf e (ev Φ e ρ) ρ).bind _ = _
  rw [h]
  rfl)
theorem e_comp {own : List (Str × Nat)} {elt : E} {ds ys : List PyData} (h1 : evI Φ it ρ = .ret ds) (h2 : lcG (lcF tg (evT Φ c) (ev Φ elt) (own.map (·.2)) ρ) ds = .ret ys) : ev Φ (.comp own tg it c elt) ρ = .ret (.list ys) := by
  show ((evI Φ it ρ).bind fun ds => (lcG (lcF tg (evT Φ c) (ev Φ elt) (own.map (·.2)) ρ) ds).bind fun ys => T.ret (PyData.list ys)) = _
  rw [h1]
  show ((lcG _ ds).bind _) = _
  rw [h2]
  rfl
theorem go_for {ds : List PyData} (hp : plainI ρ it = true) (h1 : evI Φ it ρ = .ret ds) (h2 : forG (fun d ρ => (asgT tg d ρ).bind fun ρ' => ex Φ b ρ') ds ρ = .ret (.nx, ρ')) : go Φ (.cons (.for_ tg it b) r) ρ = go Φ r ρ' := go_nx (by
  show T.chk (plainI ρ it) ((evI Φ it ρ).bind _) = _
  rw [hp, h1]
  exact h2)
theorem go_whl (h : whG (evT Φ c) (ex Φ b) whFuel ρ = .ret (.nx, ρ')) : go Φ (.cons (.whl c b) r) ρ = go Φ r ρ' := go_nx h
theorem forG_nil {f : PyData → Rho → T (Fl × Rho)} : forG f [] ρ = .ret (.nx, ρ) := rfl
theorem forG_nx {f : PyData → Rho → T (Fl × Rho)} {ds : List PyData} (h : f d ρ = .ret (.nx, ρ')) : forG f (d :: ds) ρ = forG f ds ρ' := by
  show (f d ρ).bind _ = _
  rw [h]
  rfl
theorem whG_no {c : Rho → T Bool} {f : Rho → T (Fl × Rho)} {m : Nat} (h : c ρ = .ret false) : whG c f (m + 1) ρ = .ret (.nx, ρ) := by
  show (c ρ).bind _ = _
  rw [h]
  rfl
theorem whG_yes {c : Rho → T Bool} {f : Rho → T (Fl × Rho)} {m : Nat} (h : c ρ = .ret true) (h2 : f ρ = .ret (.nx, ρ')) : whG c f (m + 1) ρ = whG c f m ρ' := by
  show (c ρ).bind _ = _
  rw [h]
  show (f ρ).bind _ = _
  rw [h2]
  rfl
/-- a for by what holds behind so many turns -/
theorem forG_inv {α : Type} {f : PyData → Rho → T (Fl × Rho)} {m : α → PyData} {all : List α} {I : List α → Rho → Prop} (h : ∀ (done : List α) (x : α) (rest : List α) (ρ : Rho), all = done ++ x :: rest → I done ρ → ∃ ρ', f (m x) ρ = .ret (.nx, ρ') ∧ I (done ++ [x]) ρ') {ρ : Rho} (h0 : I [] ρ) :
    ∃ ρ', forG f (all.map m) ρ = .ret (.nx, ρ') ∧ I all ρ' := by
  have key : ∀ (rest done : List α) (ρ : Rho), all = done ++ rest → I done ρ → ∃ ρ', forG f (rest.map m) ρ = .ret (.nx, ρ') ∧ I all ρ' := by
    intro rest
    induction rest with
    | nil => intro done ρ e i; rw [List.append_nil] at e; subst e; exact ⟨ρ, rfl, i⟩
    | cons x r ih =>
      intro done ρ e i
      obtain ⟨ρ', h1, h2⟩ := h done x r ρ e i
      obtain ⟨ρ2, h3, h4⟩ := ih (done ++ [x]) ρ' (by rw [List.append_assoc]; exact e) h2
      exact ⟨ρ2, (forG_nx h1).trans h3, h4⟩
  exact key all [] ρ rfl h0
/-- Euclid -/
theorem whG_gcd {c : Rho → T Bool} {f : Rho → T (Fl × Rho)} {R : Nat → Nat → Rho} (hs : ∀ a, c (R a 0) = .ret false) (hg : ∀ a b, 0 < b → a < 2 ^ 9000 → b < 2 ^ 9000 → c (R a b) = .ret true ∧ f (R a b) = .ret (.nx, R b (a % b))) :
    ∀ (k fuel a b : Nat), b < 2 ^ k → 2 * k + 1 ≤ fuel → a < 2 ^ 9000 → b < 2 ^ 9000 → whG c f fuel (R a b) = .ret (.nx, R (Nat.gcd a b) 0) := by
  intro k
  induction k with
  | zero =>
    intro fuel a b hb hf ha hb2
    obtain rfl : b = 0 := by omega
    obtain ⟨m, rfl⟩ : ∃ m, fuel = m + 1 := ⟨fuel - 1, by omega⟩
    rw [whG_no (hs a), Nat.gcd_zero_right]
  | succ k ih =>
    intro fuel a b hb hf ha hb2
    obtain ⟨m, rfl⟩ : ∃ m, fuel = m + 2 := ⟨fuel - 2, by omega⟩
    by_cases h0 : b = 0
    · subst h0
      rw [whG_no (hs a), Nat.gcd_zero_right]
    · have hb0 : 0 < b := Nat.pos_of_ne_zero h0
      have hlt := Nat.mod_lt a hb0
      rw [whG_yes (hg a b hb0 ha hb2).1 (hg a b hb0 ha hb2).2]
      have e : Nat.gcd a b = Nat.gcd b (a % b) := by rw [Nat.gcd_comm a b, Nat.gcd_rec b a, Nat.gcd_comm]
      by_cases h1 : a % b = 0
      · rw [h1] at e ⊢
        rw [whG_no (hs b), e, Nat.gcd_zero_right]
      · have hc0 : 0 < a % b := Nat.pos_of_ne_zero h1
        have hlt2 := Nat.mod_lt b hc0
        rw [whG_yes (hg b (a % b) hc0 hb2 (by omega)).1 (hg b (a % b) hc0 hb2 (by omega)).2]
        have e2 : Nat.gcd b (a % b) = Nat.gcd (a % b) (b % (a % b)) := by rw [Nat.gcd_comm b (a % b), Nat.gcd_rec (a % b) b, Nat.gcd_comm]
        rw [e, e2]
        have hp : 2 ^ (k + 1) = 2 * 2 ^ k := by rw [Nat.pow_succ]; omega
        refine ih m _ _ ?_ (by omega) (by omega) (by omega)
        by_cases h2 : a % b ≤ 2 ^ k
        · omega
        · have : b % (a % b) = b - a % b := by
            rw [Nat.mod_eq_sub_mod (by omega), Nat.mod_eq_of_lt (by omega)]
          omega
/-! the same with draws -/
variable {k : Nat} {Q : PyData → Nat → Prop}
theorem wp_ret {α : Type} {x : α} {k : Nat} {Q : α → Nat → Prop} (h : Q x k) : (T.ret x).wp k Q := h
theorem wp_of {α : Type} {t : T α} {x : α} {k : Nat} {Q : α → Nat → Prop} (e : t = .ret x) (h : Q x k) : t.wp k Q := by rw [e]; exact h
theorem gw_nx (h : (ex Φ s ρ).wp k fun p k' => p.1 = .nx ∧ (go Φ r p.2).wp k' Q) : (go Φ (.cons s r) ρ).wp k Q := by
  show ((((ex Φ s ρ).bind fun p => match p.1 with | .nx => ex Φ r p.2 | f => .ret (f, p.2)).bind outV)).wp k Q
  rw [T.bind_assoc, T.wp_bind]
  refine T.wp_mono (fun p k' ⟨h1, h2⟩ => ?_) h
  rw [h1]
  exact h2
theorem gw_asg (h : (ev Φ e ρ).wp k fun d k' => (go Φ r (ρ.set i (.va d))).wp k' Q) : (go Φ (.cons (.asg i false e) r) ρ).wp k Q := gw_nx (by
  show ((ev Φ e ρ).bind fun d => T.ret (Fl.nx, ρ.set i (.va d))).wp k _
  rw [T.wp_bind]
  exact T.wp_mono (fun d k' h => ⟨rfl, h⟩) h)
theorem gw_asgP {ts : List (Nat × Bool)} (h : (evC Φ e ρ).wp k fun xs k' => ∃ ρ', RG.setP ts (frs e) xs ρ = .ret ρ' ∧ (go Φ r ρ').wp k' Q) : (go Φ (.cons (.asgP ts e) r) ρ).wp k Q := gw_nx (by
  show ((evC Φ e ρ).bind fun xs => (RG.setP ts (frs e) xs ρ).bind fun ρ' => T.ret (Fl.nx, ρ')).wp k _
  rw [T.wp_bind]
  refine T.wp_mono (fun d k' ⟨ρ', h1, h2⟩ => ?_) h
  rw [h1]
  exact ⟨rfl, h2⟩)
theorem gw_eq {s' : Sx} (e : go Φ s ρ = go Φ s' ρ') (h : (go Φ s' ρ').wp k Q) : (go Φ s ρ).wp k Q := by rw [e]; exact h
end
/-! reading and handing on -/
theorem rd_v (i : Nat) (r : T PyData) (ρ : Rho) : rdOf (.v i) r ρ = getR ρ i := rfl
theorem sl_v (i : Nat) (r : T PyData) (ρ : Rho) : slOf (.v i) r ρ = getS ρ i := rfl
theorem rd_non (r : T PyData) (ρ : Rho) : rdOf .non r ρ = r := rfl
theorem sl_non (r : T PyData) (ρ : Rho) : slOf .non r ρ = r.bind fun d => .ret (.va d) := rfl
theorem rd_int (k : Int) (r : T PyData) (ρ : Rho) : rdOf (.int k) r ρ = r := rfl
theorem sl_int (k : Int) (r : T PyData) (ρ : Rho) : slOf (.int k) r ρ = r.bind fun d => .ret (.va d) := rfl
theorem rd_bl (k : Bool) (r : T PyData) (ρ : Rho) : rdOf (.bl k) r ρ = r := rfl
theorem sl_bl (k : Bool) (r : T PyData) (ρ : Rho) : slOf (.bl k) r ρ = r.bind fun d => .ret (.va d) := rfl
theorem rd_str (k : Str) (r : T PyData) (ρ : Rho) : rdOf (.str k) r ρ = r := rfl
theorem sl_str (k : Str) (r : T PyData) (ρ : Rho) : slOf (.str k) r ρ = r.bind fun d => .ret (.va d) := rfl
theorem rd_glob (x : Str) (k : Int) (r : T PyData) (ρ : Rho) : rdOf (.glob x k) r ρ = r := rfl
theorem sl_glob (x : Str) (k : Int) (r : T PyData) (ρ : Rho) : slOf (.glob x k) r ρ = r.bind fun d => .ret (.va d) := rfl
theorem rd_neg (a : E) (r : T PyData) (ρ : Rho) : rdOf (.neg a) r ρ = r := rfl
theorem sl_neg (a : E) (r : T PyData) (ρ : Rho) : slOf (.neg a) r ρ = r.bind fun d => .ret (.va d) := rfl
theorem rd_vnot (a : E) (r : T PyData) (ρ : Rho) : rdOf (.vnot a) r ρ = r := rfl
theorem sl_vnot (a : E) (r : T PyData) (ρ : Rho) : slOf (.vnot a) r ρ = r.bind fun d => .ret (.va d) := rfl
theorem rd_bin (o : Operator) (a b : E) (r : T PyData) (ρ : Rho) : rdOf (.bin o a b) r ρ = r := rfl
theorem sl_bin (o : Operator) (a b : E) (r : T PyData) (ρ : Rho) : slOf (.bin o a b) r ρ = r.bind fun d => .ret (.va d) := rfl
theorem rd_cmp (o : CmpOp) (a b : E) (r : T PyData) (ρ : Rho) : rdOf (.cmp o a b) r ρ = r := rfl
theorem sl_cmp (o : CmpOp) (a b : E) (r : T PyData) (ρ : Rho) : slOf (.cmp o a b) r ρ = r.bind fun d => .ret (.va d) := rfl
theorem rd_isN (a : E) (r : T PyData) (ρ : Rho) : rdOf (.isN a) r ρ = r := rfl
theorem sl_isN (a : E) (r : T PyData) (ρ : Rho) : slOf (.isN a) r ρ = r.bind fun d => .ret (.va d) := rfl
theorem rd_notN (a : E) (r : T PyData) (ρ : Rho) : rdOf (.notN a) r ρ = r := rfl
theorem sl_notN (a : E) (r : T PyData) (ρ : Rho) : slOf (.notN a) r ρ = r.bind fun d => .ret (.va d) := rfl
theorem rd_chn (o p : CmpOp) (a b c : E) (r : T PyData) (ρ : Rho) : rdOf (.chn o p a b c) r ρ = r := rfl
theorem sl_chn (o p : CmpOp) (a b c : E) (r : T PyData) (ρ : Rho) : slOf (.chn o p a b c) r ρ = r.bind fun d => .ret (.va d) := rfl
theorem rd_vbo (o : BoolOp) (a : E) (r : T PyData) (ρ : Rho) : rdOf (.vbo o a) r ρ = r := rfl
theorem sl_vbo (o : BoolOp) (a : E) (r : T PyData) (ρ : Rho) : slOf (.vbo o a) r ρ = r.bind fun d => .ret (.va d) := rfl
theorem rd_ife (a b c : E) (r : T PyData) (ρ : Rho) : rdOf (.ife a b c) r ρ = r := rfl
theorem sl_ife (a b c : E) (r : T PyData) (ρ : Rho) : slOf (.ife a b c) r ρ = r.bind fun d => .ret (.va d) := rfl
theorem rd_tup (a : E) (r : T PyData) (ρ : Rho) : rdOf (.tup a) r ρ = r := rfl
theorem sl_tup (a : E) (r : T PyData) (ρ : Rho) : slOf (.tup a) r ρ = r.bind fun d => .ret (.va d) := rfl
theorem rd_lst (a : E) (r : T PyData) (ρ : Rho) : rdOf (.lst a) r ρ = r := rfl
theorem sl_lst (a : E) (r : T PyData) (ρ : Rho) : slOf (.lst a) r ρ = r.bind fun d => .ret (.va d) := rfl
theorem rd_sub (a b : E) (r : T PyData) (ρ : Rho) : rdOf (.sub a b) r ρ = r := rfl
theorem sl_sub (a b : E) (r : T PyData) (ρ : Rho) : slOf (.sub a b) r ρ = r.bind fun d => .ret (.va d) := rfl
theorem rd_sli (a b c : E) (r : T PyData) (ρ : Rho) : rdOf (.sli a b c) r ρ = r := rfl
theorem sl_sli (a b c : E) (r : T PyData) (ρ : Rho) : slOf (.sli a b c) r ρ = r.bind fun d => .ret (.va d) := rfl
theorem rd_rev (a : E) (r : T PyData) (ρ : Rho) : rdOf (.rev a) r ρ = r := rfl
theorem sl_rev (a : E) (r : T PyData) (ρ : Rho) : slOf (.rev a) r ρ = r.bind fun d => .ret (.va d) := rfl
theorem rd_isi (t : String) (a : E) (r : T PyData) (ρ : Rho) : rdOf (.isi t a) r ρ = r := rfl
theorem sl_isi (t : String) (a : E) (r : T PyData) (ρ : Rho) : slOf (.isi t a) r ρ = r.bind fun d => .ret (.va d) := rfl
theorem rd_fn (f : Str) (a : E) (r : T PyData) (ρ : Rho) : rdOf (.fn f a) r ρ = r := rfl
theorem sl_fn (f : Str) (a : E) (r : T PyData) (ρ : Rho) : slOf (.fn f a) r ρ = r.bind fun d => .ret (.va d) := rfl
theorem rd_met (f : Str) (a b : E) (r : T PyData) (ρ : Rho) : rdOf (.met f a b) r ρ = r := rfl
theorem sl_met (f : Str) (a b : E) (r : T PyData) (ρ : Rho) : slOf (.met f a b) r ρ = r.bind fun d => .ret (.va d) := rfl
theorem rd_call (f : Str) (a : E) (r : T PyData) (ρ : Rho) : rdOf (.call f a) r ρ = r := rfl
theorem sl_call (f : Str) (a : E) (r : T PyData) (ρ : Rho) : slOf (.call f a) r ρ = r.bind fun d => .ret (.va d) := rfl
theorem rd_comp (o : List (Str × Nat)) (t : Tg) (a b c : E) (r : T PyData) (ρ : Rho) : rdOf (.comp o t a b c) r ρ = r := rfl
theorem sl_comp (o : List (Str × Nat)) (t : Tg) (a b c : E) (r : T PyData) (ρ : Rho) : slOf (.comp o t a b c) r ρ = r.bind fun d => .ret (.va d) := rfl
/-! built-in functions by name -/
theorem f_len : fnOp "len" = fnLen := rfl
theorem f_abs : fnOp "abs" = fnAbs := rfl
theorem f_sum : fnOp "sum" = fnSum := rfl
theorem f_all : fnOp "all" = fnAll := rfl
theorem f_tuple : fnOp "tuple" = fnTuple := rfl
theorem f_sorted : fnOp "sorted" = fnSorted := rfl
theorem f_repr : fnOp "repr" = fnRepr := rfl
theorem m_count : metOp "count" = metCount := rfl
theorem fnAll_map (bs : List Bool) : fnAll [.list (bs.map PyData.bool)] = .ret (.bool (bs.all id)) := by
  show (match asBools (bs.map PyData.bool) with | some bs => T.ret (PyData.bool (bs.all id)) | none => .fail) = _
  rw [asBools_map]
theorem fnSum_iL (ns : List Int) : fnSum [.list (iL ns)] = .ret (.int ns.sum) := by
  show (match asInts (iL ns) with | some ns => T.ret (PyData.int ns.sum) | none => .fail) = _
  rw [asInts_iL]
theorem fnSorted_L (ns : List Int) : fnSorted [.list (iL ns)] = .ret (.list (iL (sortI ns))) := by
  show (match asInts (iL ns) with | some ns => T.ret (PyData.list (iL (sortI ns))) | none => .fail) = _
  rw [asInts_iL]
theorem fnSorted_T (ns : List Int) : fnSorted [.tuple (iL ns)] = .ret (.list (iL (sortI ns))) := by
  show (match asInts (iL ns) with | some ns => T.ret (PyData.list (iL (sortI ns))) | none => .fail) = _
  rw [asInts_iL]
theorem metCount_iL (ns : List Int) (i : Int) : metCount (.tuple (iL ns)) [.int i] = .ret (.int (ns.count i : Nat)) := by
  show (match asInts (iL ns) with | some ns => T.ret (PyData.int (ns.count i : Nat)) | none => .fail) = _
  rw [asInts_iL]
end RG
end

section
set_option Elab.async false
set_option linter.all false
set_option maxRecDepth 100000
set_option maxHeartbeats 4000000
/-! Plain tools: whole numbers. -/
namespace RG
open PySem
theorem divOk_nat {a b : Nat} (hb : 0 < b) (ha : a < 2 ^ 9000) (hb2 : b < 2 ^ 9000) : divOk (a : Int) (b : Int) = true := by
  unfold divOk
  rw [Bool.or_eq_true, Bool.and_eq_true, Bool.and_eq_true, Bool.and_eq_true]
  exact .inr ⟨⟨decide_eq_true (by omega), decide_eq_true (by rw [Int.natAbs_natCast]; exact ha)⟩, decide_eq_true (by rw [Int.natAbs_natCast]; exact hb2)⟩
theorem divOk_lit {i j : Int} (h : 0 < j) (h2 : j < 1073741824) : divOk i j = true := by
  unfold divOk
  rw [Bool.or_eq_true, Bool.and_eq_true]
  exact .inl ⟨decide_eq_true (by omega), decide_eq_true (by omega)⟩
theorem mulOk_big {i j : Int} (hi : i.natAbs < 2 ^ 9000) (hj : j.natAbs < 2 ^ 9000) : mulOk i j = true := by
  unfold mulOk
  rw [Bool.or_eq_true, Bool.and_eq_true]
  exact .inr ⟨decide_eq_true hi, decide_eq_true hj⟩
theorem mulOk_l {i j : Int} (hi : i.natAbs < 18446744073709551616) : mulOk i j = true := by
  unfold mulOk
  rw [decide_eq_true hi]
  rfl
theorem mulOk_r {i j : Int} (hj : j.natAbs < 18446744073709551616) : mulOk i j = true := by
  unfold mulOk
  rw [decide_eq_true hj, Bool.or_true]
  rfl
theorem fdiv_nat (a b : Nat) : (a : Int).fdiv (b : Int) = ((a / b : Nat) : Int) := by
  rw [Int.fdiv_eq_ediv_of_nonneg _ (Int.natCast_nonneg b)]
  rfl
theorem mod_nat (a b : Nat) : (a : Int) - ((a / b : Nat) : Int) * (b : Int) = ((a % b : Nat) : Int) := by
  have h := Nat.div_add_mod a b
  have h2 : ((b * (a / b) + a % b : Nat) : Int) = (a : Int) := by rw [h]
  rw [Int.natCast_add, Int.natCast_mul] at h2
  rw [Int.mul_comm]
  omega
/-! ### items -/
theorem atI_nat {α : Type} {xs : List α} {k : Nat} {x : α} (h : xs[k]? = some x) : L2.atI xs (k : Int) = some x := by
  have hk : k < xs.length := (List.getElem?_eq_some_iff.mp h).1
  unfold L2.atI L2.ixN
  rw [if_pos (Int.natCast_nonneg k), if_pos (by omega)]
  show xs[(k : Int).toNat]? = some x
  rw [Int.toNat_natCast]
  exact h
theorem sub_list {xs : List PyData} {k : Nat} {i : Int} {d : PyData} (e : i = (k : Int)) (h : xs[k]? = some d) : subOp (.list xs) (.int i) = .ret d := by
  subst e
  show (match L2.atI xs (k : Int) with | some d => T.ret d | none => .fail) = _
  rw [atI_nat h]
theorem sub_tup {xs : List PyData} {k : Nat} {i : Int} {d : PyData} (e : i = (k : Int)) (h : xs[k]? = some d) : subOp (.tuple xs) (.int i) = .ret d := by
  subst e
  show (match L2.atI xs (k : Int) with | some d => T.ret d | none => .fail) = _
  rw [atI_nat h]
theorem at_of {xs : List PyData} {k : Nat} {i : Int} {d : PyData} (e : i = (k : Int)) (h : xs[k]? = some d) : atD xs i = .ret d := by
  subst e
  show (match L2.atI xs (k : Int) with | some d => T.ret d | none => .fail) = _
  rw [atI_nat h]
theorem iL_get {ns : List Int} {k : Nat} {i : Int} (h : ns[k]? = some i) : (iL ns)[k]? = some (.int i) := by
  rw [List.getElem?_map, h]
  rfl
/-! ### ranges -/
theorem rng1 {n : Int} {m : Nat} (e : n = (m : Int)) (h : m ≤ 16777216) : rngOp [.int n] = .ret ((List.range m).map fun (i : Nat) => PyData.int (i : Int)) := by
  subst e
  have hb : (bnd (m : Int) && small (m : Int).toNat) = true := by
    unfold bnd small
    rw [Bool.and_eq_true, Bool.and_eq_true]
    exact ⟨⟨decide_eq_true (by omega), decide_eq_true (by omega)⟩, decide_eq_true (by omega)⟩
  show T.chk (bnd (m : Int) && small (m : Int).toNat) (.ret (rngItems 0 (m : Int).toNat)) = _
  rw [hb]
  show T.ret (rngItems 0 (m : Int).toNat) = _
  rw [Int.toNat_natCast]
  unfold rngItems
  simp
theorem rng0 {n : Int} (h1 : -1000000 ≤ n) (h : n ≤ 16777216) : rngOp [.int n] = .ret ((List.range n.toNat).map fun (i : Nat) => PyData.int (i : Int)) := by
  have hb : (bnd n && small n.toNat) = true := by
    unfold bnd small
    simp only [Bool.and_eq_true, decide_eq_true_eq]
    omega
  show T.chk (bnd n && small n.toNat) (.ret (rngItems 0 n.toNat)) = _
  rw [hb]
  show T.ret (rngItems 0 n.toNat) = _
  unfold rngItems
  simp
theorem rng2 {a b : Int} {m : Nat} (e : b - a = (m : Int)) (h : m ≤ 16777216) (ha : -1000000 ≤ a ∧ a ≤ 1000000) : rngOp [.int a, .int b] = .ret ((List.range m).map fun (i : Nat) => PyData.int (a + (i : Int))) := by
  have hb : (bnd a && bnd b && small (b - a).toNat) = true := by
    unfold bnd small
    simp only [Bool.and_eq_true, decide_eq_true_eq]
    omega
  show T.chk (bnd a && bnd b && small (b - a).toNat) (.ret (rngItems a (b - a).toNat)) = _
  rw [hb]
  show T.ret (rngItems a (b - a).toNat) = _
  rw [e, Int.toNat_natCast]
  rfl
theorem enum_iL (ns : List Int) : ∀ k, enumFrom k (iL ns) = (List.range ns.length).map fun i => PyData.tuple [.int ((k + i : Nat) : Int), .int (ns.getD i 0)] := by
  intro k
  apply List.ext_getElem?
  intro i
  by_cases h : i < ns.length
  · have h1 : (iL ns)[i]? = some (.int ns[i]) := iL_get (List.getElem?_eq_getElem h)
    rw [enum_get k _ i _ h1, List.getElem?_map, List.getElem?_range h]
    simp [List.getD_eq_getElem?_getD, h]
  · rw [List.getElem?_eq_none (by rw [enum_len, List.length_map]; omega), List.getElem?_eq_none (by rw [List.length_map, List.length_range]; omega)]
/-! ### sorted rows -/
theorem sortI_len (ns : List Int) : (sortI ns).length = ns.length := (sortI_spec ns).1.length_eq
theorem sortI_mem {ns : List Int} {x : Int} : x ∈ sortI ns ↔ x ∈ ns := (sortI_spec ns).1.mem_iff
theorem sortI_map {f : Int → Int} {ns : List Int} (hf : ∀ x ∈ ns, ∀ y ∈ ns, x ≤ y → f x ≤ f y) : sortI (ns.map f) = (sortI ns).map f := by
  refine (sortI_eq ((sortI_spec ns).1.map f) ?_).symm
  rw [List.pairwise_map]
  refine (sortI_spec ns).2.imp_of_mem fun {a b} ha hb h => hf a (sortI_mem.mp ha) b (sortI_mem.mp hb) h
theorem sortI_perm {ns ms : List Int} (h : ns.Perm ms) : sortI ns = sortI ms := sortI_eq ((sortI_spec ns).1.trans h) (sortI_spec ns).2
theorem sortI_anti {f : Int → Int} {ns : List Int} (hf : ∀ x ∈ ns, ∀ y ∈ ns, x ≤ y → f y ≤ f x) : sortI (ns.map f) = ((sortI ns).map f).reverse := by
  refine (sortI_eq ((List.reverse_perm _).trans ((sortI_spec ns).1.map f)) ?_).symm
  rw [List.pairwise_reverse, List.pairwise_map]
  refine (sortI_spec ns).2.imp_of_mem fun {a b} ha hb h => hf a (sortI_mem.mp ha) b (sortI_mem.mp hb) h
end RG
end

section
set_option Elab.async false
set_option linter.all false
set_option maxRecDepth 100000
set_option maxHeartbeats 4000000
/-! Plain tools: a body, statement by statement, with draws. -/
namespace RG
open PySem
/-- from ρ the statements s end so -/
@[irreducible] def W (Φ : Calls) (s : Sx) (ρ : Rho) (k : Nat) (Q : PyData → Nat → Prop) : Prop := (go Φ s ρ).wp k Q
section
variable {Φ : Calls} {s r a b : Sx} {ρ ρ' ρ2 : Rho} {e c it : E} {d : PyData} {i k : Nat} {tg : Tg} {Q : PyData → Nat → Prop}
theorem W_iff : W Φ s ρ k Q ↔ (go Φ s ρ).wp k Q := by unfold W; exact Iff.rfl
theorem W_eq {s' : Sx} (e : go Φ s ρ = go Φ s' ρ') (h : W Φ s' ρ' k Q) : W Φ s ρ k Q := W_iff.mpr (by rw [e]; exact W_iff.mp h)
theorem W_nx (h : ex Φ s ρ = .ret (.nx, ρ')) (h3 : W Φ r ρ' k Q) : W Φ (.cons s r) ρ k Q := W_eq (go_nx h) h3
theorem W_asg (h : ev Φ e ρ = .ret d) (h2 : ρ.set i (.va d) = ρ2) (h3 : W Φ r ρ2 k Q) : W Φ (.cons (.asg i false e) r) ρ k Q := W_eq (go_asgS h h2) h3
theorem W_asgO {ds : List PyData} (h : ev Φ e ρ = .ret (.list ds)) (hf : isFr e = true) (h2 : ρ.set i (.ow (.list ds)) = ρ2) (h3 : W Φ r ρ2 k Q) : W Φ (.cons (.asg i true e) r) ρ k Q := W_eq (go_asgO h hf) (by rw [h2]; exact h3)
theorem W_asgP {ts : List (Nat × Bool)} {xs : List Sl} (h : evC Φ e ρ = .ret xs) (h2 : RG.setP ts (frs e) xs ρ = .ret ρ2) (h3 : W Φ r ρ2 k Q) : W Φ (.cons (.asgP ts e) r) ρ k Q := W_eq (go_asgP h h2) h3
theorem W_asgT (h : ev Φ e ρ = .ret d) (h2 : asgT tg d ρ = .ret ρ2) (h3 : W Φ r ρ2 k Q) : W Φ (.cons (.asgT tg e) r) ρ k Q := W_eq (go_asgT h h2) h3
theorem W_exe (h : ev Φ e ρ = .ret d) (h3 : W Φ r ρ k Q) : W Φ (.cons (.exe e) r) ρ k Q := W_eq (go_exe h) h3
theorem W_no (h : evT Φ c ρ = .ret false) (h3 : W Φ r ρ k Q) : W Φ (.cons (.ite c a .nil) r) ρ k Q := W_eq (go_no h) h3
theorem W_yes (h : evT Φ c ρ = .ret true) (h2 : ex Φ a ρ = .ret (.nx, ρ')) (h3 : W Φ r ρ' k Q) : W Φ (.cons (.ite c a b) r) ρ k Q := W_eq (go_yes h h2) h3
theorem W_for {ds : List PyData} (hp : plainI ρ it = true) (h1 : evI Φ it ρ = .ret ds) (h2 : forG (fun d ρ => (asgT tg d ρ).bind fun ρ' => ex Φ b ρ') ds ρ = .ret (.nx, ρ')) (h3 : W Φ r ρ' k Q) : W Φ (.cons (.for_ tg it b) r) ρ k Q := W_eq (go_for hp h1 h2) h3
theorem W_whl (h : whG (evT Φ c) (ex Φ b) whFuel ρ = .ret (.nx, ρ')) (h3 : W Φ r ρ' k Q) : W Φ (.cons (.whl c b) r) ρ k Q := W_eq (go_whl h) h3
theorem W_ret (h : rdOf e (ev Φ e ρ) ρ = .ret d) (h3 : Q d k) : W Φ (.cons (.ret e) r) ρ k Q := W_iff.mpr (wp_of (go_ret h) h3)
theorem W_yesR (h : evT Φ c ρ = .ret true) (h2 : rdOf e (ev Φ e ρ) ρ = .ret d) (h3 : Q d k) : W Φ (.cons (.ite c (.cons (.ret e) .nil) b) r) ρ k Q := W_iff.mpr (wp_of (go_rt (ρ' := ρ) (by
  show (evT Φ c ρ).bind _ = _
  rw [h]
  show ((((rdOf e (ev Φ e ρ) ρ).bind fun d => T.ret (Fl.rt d, ρ))).bind _) = _
  rw [h2]
  rfl)) h3)
theorem W_end (h3 : Q .none k) : W Φ .nil ρ k Q := W_iff.mpr (wp_of go_end h3)
/-- a value with draws -/
theorem W_asgW (h : (ev Φ e ρ).wp k fun d k' => W Φ r (ρ.set i (.va d)) k' Q) : W Φ (.cons (.asg i false e) r) ρ k Q := W_iff.mpr (gw_asg (T.wp_mono (fun _ _ h => W_iff.mp h) h))
theorem W_asgPW {ts : List (Nat × Bool)} (h : (evC Φ e ρ).wp k fun xs k' => ∃ ρ', RG.setP ts (frs e) xs ρ = .ret ρ' ∧ W Φ r ρ' k' Q) : W Φ (.cons (.asgP ts e) r) ρ k Q := W_iff.mpr (gw_asgP (T.wp_mono (fun _ _ ⟨ρ', h1, h⟩ => ⟨ρ', h1, W_iff.mp h⟩) h))
theorem W_draw {ρ2 : Int → Rho} {m : Int} (h : ev Φ e ρ = .draw m fun d => .ret (.int d)) (hr : ∀ d, ρ.set i (.va (.int d)) = ρ2 d) (hm : 0 < m) (hm2 : m < 1073741824) (hk : 0 < k)
    (h2 : ∀ d, 0 ≤ d → d < m → W Φ r (ρ2 d) (k - 1) Q) : W Φ (.cons (.asg i false e) r) ρ k Q := by
  refine W_asgW ?_
  rw [h]
  refine ⟨⟨hm, hm2, hk⟩, fun d h0 h1 => ?_⟩
  have q := h2 d h0 h1
  rw [← hr d] at q
  exact q
end
/-- one draw, then so many: a row of numbers -/
theorem wp_row {Φ : Calls} {it elt : E} {v : Nat} {own : List (Str × Nat)} {ρ : Rho} {m n : Int} {k : Nat} {Q : PyData → Nat → Prop} (h1 : evI Φ it ρ = .draw m fun d => rngOp [.int (1 + d)]) (hm : 0 < m) (hm2 : m < 1000)
    (h2 : ∀ x : Nat, lcF (.v v) (evT Φ .tyes) (ev Φ elt) (own.map (·.2)) ρ (.int (x : Int)) = .draw n fun d => .ret (some (.int d))) (hn : 0 < n) (hn2 : n < 1000) (hk : m.toNat + 1 ≤ k)
    (h3 : ∀ (ys : List Int) (k' : Nat), 1 ≤ ys.length → (ys.length : Int) ≤ m → (∀ y ∈ ys, 0 ≤ y ∧ y < n) → k - 1 - m.toNat ≤ k' → Q (.tuple (iL ys)) k') :
    (ev Φ (.fn "tuple" (.cons (.comp own (.v v) it .tyes elt) .nil)) ρ).wp k Q := by
  have e : ev Φ (.fn "tuple" (.cons (.comp own (.v v) it .tyes elt) .nil)) ρ = (evI Φ it ρ).bind fun ds => (lcG (lcF (.v v) (evT Φ .tyes) (ev Φ elt) (own.map (·.2)) ρ) ds).bind fun ys => T.ret (PyData.tuple ys) := by
    show ((((((evI Φ it ρ).bind fun ds => (lcG (lcF (.v v) (evT Φ .tyes) (ev Φ elt) (own.map (·.2)) ρ) ds).bind fun ys => T.ret (PyData.list ys)))).bind fun x => T.ret [x]).bind fun ds => fnOp "tuple" ds) = _
    rw [T.bind_assoc, T.bind_assoc]
    congr 1
    funext ds
    rw [T.bind_assoc]
    rfl
  rw [e, h1]
  refine ⟨⟨hm, by omega, by omega⟩, fun d h0 hd => ?_⟩
  have er : rngOp [.int (1 + d)] = .ret ((List.range (1 + d).toNat).map fun (i : Nat) => PyData.int (i : Int)) := rng1 (m := (1 + d).toNat) (by omega) (by omega)
  show ((rngOp [.int (1 + d)]).bind fun ds => (lcG (lcF (.v v) (evT Φ .tyes) (ev Φ elt) (own.map (·.2)) ρ) ds).bind fun ys => T.ret (PyData.tuple ys)).wp (k - 1) Q
  rw [er]
  show ((lcG (lcF (.v v) (evT Φ .tyes) (ev Φ elt) (own.map (·.2)) ρ) ((List.range (1 + d).toNat).map fun (i : Nat) => PyData.int (i : Int))).bind fun ys => T.ret (PyData.tuple ys)).wp (k - 1) Q
  rw [T.wp_bind]
  refine wp_draws (g := PyData.int) hn (by omega) (fun x hx => ?_) (by rw [List.length_map, List.length_range]; omega) fun ys hl hy => ?_
  · obtain ⟨j, _, rfl⟩ := List.mem_map.mp hx
    exact h2 j
  · rw [List.length_map, List.length_range] at hl
    rw [List.length_map, List.length_range]
    exact h3 ys _ (by omega) (by omega) hy (by omega)
end RG
end

section
set_option Elab.async false
set_option linter.all false
set_option maxRecDepth 100000
set_option maxHeartbeats 4000000
/-! Plain tools: statements inside a loop. -/
namespace RG
open PySem
section
variable {Φ : Calls} {s r a b : Sx} {ρ ρ' ρ2 : Rho} {e c it : E} {d : PyData} {i k : Nat} {tg : Tg} {x : T (Fl × Rho)}
theorem ex_cons (h : ex Φ s ρ = .ret (.nx, ρ')) (h2 : ex Φ r ρ' = x) : ex Φ (.cons s r) ρ = x := by
  show ((ex Φ s ρ).bind _) = _
  rw [h]
  exact h2
theorem ex_one (h : ex Φ s ρ = .ret (.nx, ρ')) : ex Φ (.cons s .nil) ρ = .ret (.nx, ρ') := ex_cons h rfl
theorem ex_asg (h : ev Φ e ρ = .ret d) (h2 : ρ.set i (.va d) = ρ2) : ex Φ (.asg i false e) ρ = .ret (.nx, ρ2) := by
  show ((ev Φ e ρ).bind _) = _
  rw [h, ← h2]
  rfl
theorem ex_asgO {ds : List PyData} (h : ev Φ e ρ = .ret (.list ds)) (hf : isFr e = true) (h2 : ρ.set i (.ow (.list ds)) = ρ2) : ex Φ (.asg i true e) ρ = .ret (.nx, ρ2) := by
  show ((ev Φ e ρ).bind _) = _
  rw [h, hf, ← h2]
  rfl
theorem ex_asgT (h : ev Φ e ρ = .ret d) (h2 : asgT tg d ρ = .ret ρ') : ex Φ (.asgT tg e) ρ = .ret (.nx, ρ') := by
  show ((ev Φ e ρ).bind _) = _
  rw [h]
  show ((asgT tg d ρ).bind _) = _
  rw [h2]
  rfl
theorem ex_asgP {ts : List (Nat × Bool)} {xs : List Sl} (h : evC Φ e ρ = .ret xs) (h2 : RG.setP ts (frs e) xs ρ = .ret ρ2) : ex Φ (.asgP ts e) ρ = .ret (.nx, ρ2) := by
  show ((evC Φ e ρ).bind _) = _
  rw [h]
  show ((RG.setP ts (frs e) xs ρ).bind _) = _
  rw [h2]
  rfl
theorem ex_exe (h : ev Φ e ρ = .ret d) : ex Φ (.exe e) ρ = .ret (.nx, ρ) := by
  show ((ev Φ e ρ).bind _) = _
  rw [h]
  rfl
theorem ex_app {xs : List PyData} (h1 : ρ[i]? = some (.ow (.list xs))) (h : ev Φ e ρ = .ret d) (hl : xs.length < 16777216) (h2 : ρ.set i (.ow (.list (xs ++ [d]))) = ρ2) : ex Φ (.app i e) ρ = .ret (.nx, ρ2) := by
  have g : getO ρ i = .ret xs := by
    unfold getO
    rw [h1]
  show ((getO ρ i).bind _) = _
  rw [g]
  show ((ev Φ e ρ).bind _) = _
  rw [h]
  show T.chk (decide (xs.length < 16777216)) _ = _
  rw [decide_eq_true hl, h2]
  rfl
theorem ex_no (h : evT Φ c ρ = .ret false) : ex Φ (.ite c a .nil) ρ = .ret (.nx, ρ) := by
  show ((evT Φ c ρ).bind _) = _
  rw [h]
  rfl
theorem ex_if {b' : Bool} (h : evT Φ c ρ = .ret b') (h2 : (if b' then ex Φ a ρ else ex Φ b ρ) = x) : ex Φ (.ite c a b) ρ = x := by
  show ((evT Φ c ρ).bind _) = _
  rw [h]
  exact h2
theorem ex_for {ds : List PyData} (hp : plainI ρ it = true) (h1 : evI Φ it ρ = .ret ds) (h2 : forG (fun d ρ => (asgT tg d ρ).bind fun ρ' => ex Φ b ρ') ds ρ = x) : ex Φ (.for_ tg it b) ρ = x := by
  show T.chk (plainI ρ it) ((evI Φ it ρ).bind _) = _
  rw [hp, h1]
  exact h2
theorem ex_whl (h : whG (evT Φ c) (ex Φ b) whFuel ρ = x) : ex Φ (.whl c b) ρ = x := h
end
end RG
end

section
set_option Elab.async false
set_option linter.all false
set_option maxRecDepth 100000
set_option maxHeartbeats 4000000
namespace K63
open PySem PySem.Spec PySem.Calls PyProof.Rows L2 RG
abbrev prog : Program := PySem.Challenge.pw_raingauged_k63_whole_records_and_odds_of
def top (i : Nat) : Stmt := prog.main.body.getD i (.Pass ⟨0, 0, 0, 0⟩)
def F_is_integer_b : Sx := (.cons (.ret (.vbo .And (.cons (.isi "int" (.v 0)) (.cons (.vnot (.isi "bool" (.v 0))) .nil)))) .nil)
def F_is_integer : Fd := ⟨"is_integer", ["value"], ["value"], F_is_integer_b⟩
def F_is_between_b : Sx := (.cons (.ret (.vbo .And (.cons (.call "is_integer" (.cons (.v 0) .nil)) (.cons (.chn .LtE .LtE (.v 1) (.v 0) (.v 2)) .nil)))) .nil)
def F_is_between : Fd := ⟨"is_between", ["value", "low", "high"], ["value", "low", "high"], F_is_between_b⟩
def C_check_years_0 : E := .comp [("own", 1)] (.v 1) (.ival (.v 0)) .tyes (.call "is_between" (.cons (.v 1) (.cons (.int 0) (.cons (.glob "MAX_SIZE" 1000000000000) .nil))))
def F_check_years_b : Sx := (.cons (.ite (.tbo .Or (.cons (.tnot (.tval (.isi "tuple" (.v 0)))) (.cons (.tnot (.tchn .LtE .LtE (.int 1) (.fn "len" (.cons (.v 0) .nil)) (.glob "MAX_YEARS" 200))) .nil))) (.cons .rai .nil) .nil) (.cons (.ite (.tnot (.tval (.fn "all" (.cons C_check_years_0 .nil)))) (.cons .rai .nil) .nil) .nil))
def F_check_years : Fd := ⟨"check_years", ["years"], ["years", "own"], F_check_years_b⟩
def F_check_level_b : Sx := (.cons (.ite (.tnot (.tval (.call "is_between" (.cons (.v 0) (.cons (.int 0) (.cons (.glob "MAX_SIZE" 1000000000000) .nil)))))) (.cons .rai .nil) .nil) .nil)
def F_check_level : Fd := ⟨"check_level", ["level"], ["level"], F_check_level_b⟩
def L_quotient_0 : Sx := (.cons (.asgP [(2, false), (3, false)] (.cons (.v 3) (.cons (.bin .Sub (.v 2) (.bin .Mult (.bin .FloorDiv (.v 2) (.v 3)) (.v 3))) .nil))) .nil)
def F_quotient_b : Sx := (.cons (.asgP [(2, false), (3, false)] (.cons (.v 0) (.cons (.v 1) .nil))) (.cons (.whl (.tval (.v 3)) L_quotient_0) (.cons (.ret (.tup (.cons (.bin .FloorDiv (.v 0) (.v 2)) (.cons (.bin .FloorDiv (.v 1) (.v 2)) .nil)))) .nil)))
def F_quotient : Fd := ⟨"quotient", ["up", "down"], ["up", "down", "one", "other"], F_quotient_b⟩
def C_ranks_of_0 : E := .comp [("other", 4)] (.v 4) (.ival (.v 0)) (.tcmp .Gt (.v 4) (.v 2)) (.int 1)
def L_ranks_of_0 : Sx := (.cons (.asg 3 false (.fn "len" (.cons C_ranks_of_0 .nil))) (.cons (.app 1 (.tup (.cons (.bin .Add (.v 3) (.int 1)) (.cons (.bin .Add (.v 3) (.met "count" (.v 0) (.cons (.v 2) .nil))) .nil)))) .nil))
def F_ranks_of_b : Sx := (.cons (.exe (.call "check_years" (.cons (.v 0) .nil))) (.cons (.asg 1 true (.lst .nil)) (.cons (.for_ (.v 2) (.ival (.v 0)) L_ranks_of_0) (.cons (.ret (.fn "tuple" (.cons (.v 1) .nil))) .nil))))
def F_ranks_of : Fd := ⟨"ranks_of", ["years"], ["years", "found", "own", "more", "other"], F_ranks_of_b⟩
def C_returns_of_0 : E := .comp [("first", 1), ("last", 2)] (.tup (.cons (.v 1) (.cons (.v 2) .nil))) (.ival (.call "ranks_of" (.cons (.v 0) .nil))) .tyes (.call "quotient" (.cons (.bin .Add (.fn "len" (.cons (.v 0) .nil)) (.int 1)) (.cons (.v 2) .nil)))
def F_returns_of_b : Sx := (.cons (.ret (.fn "tuple" (.cons C_returns_of_0 .nil))) .nil)
def F_returns_of : Fd := ⟨"returns_of", ["years"], ["years", "first", "last"], F_returns_of_b⟩
def F_median_of_b : Sx := (.cons (.exe (.call "check_years" (.cons (.v 0) .nil))) (.cons (.asg 1 false (.fn "sorted" (.cons (.v 0) .nil))) (.cons (.asg 2 false (.bin .FloorDiv (.fn "len" (.cons (.v 1) .nil)) (.int 2))) (.cons (.ret (.ife (.tcmp .Gt (.fn "len" (.cons (.v 1) .nil)) (.bin .Mult (.int 2) (.v 2))) (.tup (.cons (.sub (.v 1) (.v 2)) (.cons (.int 1) .nil))) (.call "quotient" (.cons (.bin .Add (.sub (.v 1) (.bin .Sub (.v 2) (.int 1))) (.sub (.v 1) (.v 2))) (.cons (.int 2) .nil))))) .nil))))
def F_median_of : Fd := ⟨"median_of", ["years"], ["years", "rows", "half"], F_median_of_b⟩
def C_count_from_0 : E := .comp [("own", 2)] (.v 2) (.ival (.v 0)) (.tcmp .GtE (.v 2) (.v 1)) (.int 1)
def F_count_from_b : Sx := (.cons (.exe (.call "check_years" (.cons (.v 0) .nil))) (.cons (.exe (.call "check_level" (.cons (.v 1) .nil))) (.cons (.ret (.fn "len" (.cons C_count_from_0 .nil))) .nil)))
def F_count_from : Fd := ⟨"count_from", ["years", "level"], ["years", "level", "own"], F_count_from_b⟩
def F_level_for_b : Sx := (.cons (.exe (.call "check_years" (.cons (.v 0) .nil))) (.cons (.ite (.tnot (.tval (.call "is_between" (.cons (.v 1) (.cons (.int 1) (.cons (.fn "len" (.cons (.v 0) .nil)) .nil)))))) (.cons .rai .nil) .nil) (.cons (.ret (.sub (.fn "sorted" (.cons (.v 0) .nil)) (.bin .Sub (.fn "len" (.cons (.v 0) .nil)) (.v 1)))) .nil)))
def F_level_for : Fd := ⟨"level_for", ["years", "many"], ["years", "many"], F_level_for_b⟩
def L_record_years_0 : Sx := (.cons (.ite (.tcmp .Gt (.v 4) (.v 2)) (.cons (.app 1 (.v 3)) (.cons (.asg 2 false (.v 4)) .nil)) .nil) .nil)
def F_record_years_b : Sx := (.cons (.exe (.call "check_years" (.cons (.v 0) .nil))) (.cons (.asgP [(1, true), (2, false)] (.cons (.lst .nil) (.cons (.neg (.int 1)) .nil))) (.cons (.for_ (.tup (.cons (.v 3) (.cons (.v 4) .nil))) (.ienum (.cons (.v 0) .nil)) L_record_years_0) (.cons (.ret (.fn "tuple" (.cons (.v 1) .nil))) .nil))))
def F_record_years : Fd := ⟨"record_years", ["years"], ["years", "found", "most", "at", "own"], F_record_years_b⟩
def L_mean_records_0 : Sx := (.cons (.asgT (.tup (.cons (.v 1) (.cons (.v 2) .nil))) (.call "quotient" (.cons (.bin .Add (.bin .Mult (.v 1) (.v 3)) (.v 2)) (.cons (.bin .Mult (.v 2) (.v 3)) .nil)))) .nil)
def F_mean_records_b : Sx := (.cons (.ite (.tnot (.tval (.call "is_between" (.cons (.v 0) (.cons (.int 1) (.cons (.glob "MAX_YEARS" 200) .nil)))))) (.cons .rai .nil) .nil) (.cons (.asgP [(1, false), (2, false)] (.cons (.int 0) (.cons (.int 1) .nil))) (.cons (.for_ (.v 3) (.irng (.cons (.int 1) (.cons (.bin .Add (.v 0) (.int 1)) .nil))) L_mean_records_0) (.cons (.ret (.tup (.cons (.v 1) (.cons (.v 2) .nil)))) .nil))))
def F_mean_records : Fd := ⟨"mean_records", ["many"], ["many", "up", "down", "own"], F_mean_records_b⟩
def C_record_ways_0 : E := .comp [("here", 4), ("ahead", 5)] (.tup (.cons (.v 4) (.cons (.v 5) .nil))) (.izip (.cons (.v 2) (.cons (.bin .Add (.lst (.cons (.int 0) .nil)) (.v 2)) .nil))) .tyes (.bin .Add (.v 5) (.bin .Mult (.v 3) (.v 4)))
def L_record_ways_0 : Sx := (.cons (.asg 2 false C_record_ways_0) .nil)
def F_record_ways_b : Sx := (.cons (.ite (.tnot (.tval (.call "is_between" (.cons (.v 0) (.cons (.int 1) (.cons (.glob "MAX_YEARS" 200) .nil)))))) (.cons .rai .nil) .nil) (.cons (.ite (.tnot (.tval (.call "is_between" (.cons (.v 1) (.cons (.int 0) (.cons (.glob "MAX_YEARS" 200) .nil)))))) (.cons .rai .nil) .nil) (.cons (.asg 2 false (.bin .Add (.lst (.cons (.int 1) .nil)) (.bin .Mult (.lst (.cons (.int 0) .nil)) (.v 0)))) (.cons (.for_ (.v 3) (.irng (.cons (.v 0) .nil)) L_record_ways_0) (.cons (.ret (.ife (.tcmp .LtE (.v 1) (.v 0)) (.sub (.v 2) (.v 1)) (.int 0))) .nil)))))
def F_record_ways : Fd := ⟨"record_ways", ["many", "records"], ["many", "records", "rows", "own", "here", "ahead"], F_record_ways_b⟩
def F_check_odds_b : Sx := (.cons (.ite (.tbo .Or (.cons (.tnot (.tval (.isi "tuple" (.v 0)))) (.cons (.tcmp .NotEq (.fn "len" (.cons (.v 0) .nil)) (.int 2)) (.cons (.tnot (.tval (.call "is_between" (.cons (.sub (.v 0) (.int 1)) (.cons (.int 1) (.cons (.glob "MAX_PART" 1000) .nil)))))) .nil)))) (.cons .rai .nil) .nil) (.cons (.ite (.tnot (.tval (.call "is_between" (.cons (.sub (.v 0) (.int 0)) (.cons (.int 0) (.cons (.sub (.v 0) (.int 1)) .nil)))))) (.cons .rai .nil) .nil) .nil))
def F_check_odds : Fd := ⟨"check_odds", ["odds"], ["odds"], F_check_odds_b⟩
def F_check_counts_b : Sx := (.cons (.ite (.tnot (.tval (.call "is_between" (.cons (.v 0) (.cons (.int 1) (.cons (.glob "MAX_YEARS" 200) .nil)))))) (.cons .rai .nil) .nil) (.cons (.ite (.tnot (.tval (.call "is_between" (.cons (.v 1) (.cons (.int 0) (.cons (.v 0) .nil)))))) (.cons .rai .nil) .nil) .nil))
def F_check_counts : Fd := ⟨"check_counts", ["many", "least"], ["many", "least"], F_check_counts_b⟩
def L_power_0 : Sx := (.cons (.aug 2 .Mult (.v 0)) .nil)
def F_power_b : Sx := (.cons (.asg 2 false (.int 1)) (.cons (.for_ (.v 3) (.irng (.cons (.v 1) .nil)) L_power_0) (.cons (.ret (.v 2)) .nil)))
def F_power : Fd := ⟨"power", ["base", "many"], ["base", "many", "found", "turn"], F_power_b⟩
def L_rows_from_0 : Sx := (.cons (.ite (.tcmp .GtE (.v 5) (.v 2)) (.cons (.aug 3 .Add (.bin .Mult (.bin .Mult (.v 4) (.call "power" (.cons (.sub (.v 0) (.int 0)) (.cons (.v 5) .nil)))) (.call "power" (.cons (.bin .Sub (.sub (.v 0) (.int 1)) (.sub (.v 0) (.int 0))) (.cons (.bin .Sub (.v 1) (.v 5)) .nil))))) .nil) .nil) (.cons (.asg 4 false (.bin .FloorDiv (.bin .Mult (.v 4) (.bin .Sub (.v 1) (.v 5))) (.bin .Add (.v 5) (.int 1)))) .nil))
def F_rows_from_b : Sx := (.cons (.asgP [(3, false), (4, false)] (.cons (.int 0) (.cons (.int 1) .nil))) (.cons (.for_ (.v 5) (.irng (.cons (.bin .Add (.v 1) (.int 1)) .nil)) L_rows_from_0) (.cons (.ret (.tup (.cons (.v 3) (.cons (.call "power" (.cons (.sub (.v 0) (.int 1)) (.cons (.v 1) .nil))) .nil)))) .nil)))
def F_rows_from : Fd := ⟨"rows_from", ["odds", "many", "least"], ["odds", "many", "least", "up", "ways", "own"], F_rows_from_b⟩
def F_odds_from_b : Sx := (.cons (.exe (.call "check_odds" (.cons (.v 0) .nil))) (.cons (.exe (.call "check_counts" (.cons (.v 1) (.cons (.v 2) .nil)))) (.cons (.asgT (.tup (.cons (.v 3) (.cons (.v 4) .nil))) (.call "rows_from" (.cons (.v 0) (.cons (.v 1) (.cons (.v 2) .nil))))) (.cons (.ret (.call "quotient" (.cons (.v 3) (.cons (.v 4) .nil)))) .nil))))
def F_odds_from : Fd := ⟨"odds_from", ["odds", "many", "least"], ["odds", "many", "least", "up", "down"], F_odds_from_b⟩
def F_check_limit_b : Sx := (.cons (.ite (.tbo .Or (.cons (.tnot (.tval (.isi "tuple" (.v 0)))) (.cons (.tcmp .NotEq (.fn "len" (.cons (.v 0) .nil)) (.int 2)) (.cons (.tnot (.tval (.call "is_between" (.cons (.sub (.v 0) (.int 1)) (.cons (.int 1) (.cons (.glob "MAX_PART" 1000) .nil)))))) .nil)))) (.cons .rai .nil) .nil) (.cons (.ite (.tnot (.tval (.call "is_between" (.cons (.sub (.v 0) (.int 0)) (.cons (.int 0) (.cons (.sub (.v 0) (.int 1)) .nil)))))) (.cons .rai .nil) .nil) .nil))
def F_check_limit : Fd := ⟨"check_limit", ["limit"], ["limit"], F_check_limit_b⟩
def C_judge_claim_0 : E := .comp [("own", 5)] (.v 5) (.ival (.v 0)) (.tcmp .GtE (.v 5) (.v 1)) (.int 1)
def F_judge_claim_b : Sx := (.cons (.exe (.call "check_years" (.cons (.v 0) .nil))) (.cons (.exe (.call "check_level" (.cons (.v 1) .nil))) (.cons (.exe (.call "check_odds" (.cons (.v 2) .nil))) (.cons (.exe (.call "check_limit" (.cons (.v 3) .nil))) (.cons (.asg 4 false (.fn "len" (.cons C_judge_claim_0 .nil))) (.cons (.asg 6 false (.call "rows_from" (.cons (.v 2) (.cons (.fn "len" (.cons (.v 0) .nil)) (.cons (.v 4) .nil))))) (.cons (.asg 7 false (.tup (.cons (.bin .Sub (.sub (.v 6) (.int 1)) (.sub (.call "rows_from" (.cons (.v 2) (.cons (.fn "len" (.cons (.v 0) .nil)) (.cons (.bin .Add (.v 4) (.int 1)) .nil)))) (.int 0))) (.cons (.sub (.v 6) (.int 1)) .nil)))) (.cons (.ite (.tcmp .Lt (.bin .Mult (.sub (.v 6) (.int 0)) (.sub (.v 3) (.int 1))) (.bin .Mult (.sub (.v 3) (.int 0)) (.sub (.v 6) (.int 1)))) (.cons (.ret (.tup (.cons (.str "more") (.cons (.call "quotient" (.cons (.sub (.v 6) (.int 0)) (.cons (.sub (.v 6) (.int 1)) .nil))) .nil)))) .nil) .nil) (.cons (.ite (.tcmp .Lt (.bin .Mult (.sub (.v 7) (.int 0)) (.sub (.v 3) (.int 1))) (.bin .Mult (.sub (.v 3) (.int 0)) (.sub (.v 7) (.int 1)))) (.cons (.ret (.tup (.cons (.str "fewer") (.cons (.call "quotient" (.cons (.sub (.v 7) (.int 0)) (.cons (.sub (.v 7) (.int 1)) .nil))) .nil)))) .nil) .nil) (.cons (.ret (.tup (.cons (.str "fits") .nil))) .nil))))))))))
def F_judge_claim : Fd := ⟨"judge_claim", ["years", "level", "odds", "limit"], ["years", "level", "odds", "limit", "many", "own", "more", "fewer"], F_judge_claim_b⟩
def L_fewest_years_0 : Sx := (.cons (.aug 4 .Add (.int 1)) (.cons (.asgT (.tup (.cons (.v 3) (.cons (.v 6) (.cons (.v 5) .nil)))) (.call "one_more" (.cons (.v 0) (.cons (.v 3) (.cons (.v 6) (.cons (.v 5) .nil)))))) .nil))
def F_fewest_years_b : Sx := (.cons (.exe (.call "check_odds" (.cons (.v 0) .nil))) (.cons (.ite (.tnot (.tval (.call "is_between" (.cons (.v 1) (.cons (.int 1) (.cons (.glob "MAX_YEARS" 200) .nil)))))) (.cons .rai .nil) .nil) (.cons (.exe (.call "check_limit" (.cons (.v 2) .nil))) (.cons (.asg 3 false (.bin .Add (.lst (.cons (.int 1) .nil)) (.bin .Mult (.lst (.cons (.int 0) .nil)) (.bin .Sub (.v 1) (.int 1))))) (.cons (.asgP [(4, false), (5, false), (6, false)] (.cons (.int 0) (.cons (.int 1) (.cons (.int 0) .nil)))) (.cons (.whl (.tbo .Or (.cons (.tcmp .Lt (.v 4) (.v 1)) (.cons (.tbo .And (.cons (.tcmp .Lt (.bin .Mult (.v 6) (.sub (.v 2) (.int 1))) (.bin .Mult (.sub (.v 2) (.int 0)) (.v 5))) (.cons (.tcmp .Lt (.v 4) (.glob "MAX_YEARS" 200)) .nil))) .nil))) L_fewest_years_0) (.cons (.ret (.ife (.tcmp .Lt (.bin .Mult (.v 6) (.sub (.v 2) (.int 1))) (.bin .Mult (.sub (.v 2) (.int 0)) (.v 5))) .non (.v 4))) .nil)))))))
def F_fewest_years : Fd := ⟨"fewest_years", ["odds", "least", "limit"], ["odds", "least", "limit", "ways", "many", "down", "met"], F_fewest_years_b⟩
def C_one_more_0 : E := .comp [("own", 5), ("ahead", 6)] (.tup (.cons (.v 5) (.cons (.v 6) .nil))) (.izip (.cons (.v 1) (.cons (.bin .Add (.lst (.cons (.int 0) .nil)) (.v 1)) .nil))) .tyes (.bin .Add (.bin .Mult (.v 5) (.bin .Sub (.sub (.v 0) (.int 1)) (.sub (.v 0) (.int 0)))) (.bin .Mult (.v 6) (.sub (.v 0) (.int 0))))
def F_one_more_b : Sx := (.cons (.asg 2 false (.bin .Add (.bin .Mult (.v 2) (.sub (.v 0) (.int 1))) (.bin .Mult (.sub (.v 1) (.neg (.int 1))) (.sub (.v 0) (.int 0))))) (.cons (.asg 4 false C_one_more_0) (.cons (.ret (.tup (.cons (.v 4) (.cons (.v 2) (.cons (.bin .Mult (.v 3) (.sub (.v 0) (.int 1))) .nil))))) .nil)))
def F_one_more : Fd := ⟨"one_more", ["odds", "ways", "met", "down"], ["odds", "ways", "met", "down", "rows", "own", "ahead"], F_one_more_b⟩
def C_accept_level_0 : E := .comp [("at", 5), ("own", 4)] (.tup (.cons (.v 5) (.cons (.v 4) .nil))) (.ienum (.cons (.v 0) .nil)) (.tcmp .GtE (.v 4) (.v 1)) (.v 5)
def C_accept_level_1 : E := .comp [("at", 5)] (.v 5) (.irng (.cons (.bin .Sub (.fn "len" (.cons (.v 3) .nil)) (.int 1)) .nil)) (.tcmp .GtE (.sub (.v 3) (.v 5)) (.sub (.v 3) (.bin .Add (.v 5) (.int 1)))) (.int 1)
def C_accept_level_2 : E := .comp [("own", 4)] (.v 4) (.ival (.v 3)) .tyes (.call "is_between" (.cons (.v 4) (.cons (.int 0) (.cons (.bin .Sub (.fn "len" (.cons (.v 0) .nil)) (.int 1)) .nil))))
def F_accept_level_b : Sx := (.cons (.exe (.call "check_years" (.cons (.v 0) .nil))) (.cons (.exe (.call "check_level" (.cons (.v 1) .nil))) (.cons (.ite (.tbo .Or (.cons (.tnot (.tval (.isi "tuple" (.v 3)))) (.cons (.tnot (.tval (.fn "all" (.cons C_accept_level_2 .nil)))) .nil))) (.cons .rai .nil) .nil) (.cons (.ite (.tbo .Or (.cons (.tnot (.tval (.call "is_integer" (.cons (.v 2) .nil)))) (.cons (.tval C_accept_level_1) .nil))) (.cons .rai .nil) .nil) (.cons (.ite (.tcmp .NotEq (.v 3) (.fn "tuple" (.cons C_accept_level_0 .nil))) (.cons .rai .nil) .nil) (.cons (.ite (.tcmp .NotEq (.fn "len" (.cons (.v 3) .nil)) (.v 2)) (.cons .rai .nil) .nil) .nil))))))
def F_accept_level : Fd := ⟨"accept_level", ["years", "level", "many", "some"], ["years", "level", "many", "some", "own", "at"], F_accept_level_b⟩
def F_law_same_b : Sx := (.cons (.ret (.vbo .And (.cons (.cmp .Eq (.v 0) (.v 1)) (.cons (.cmp .Eq (.fn "repr" (.cons (.v 0) .nil)) (.fn "repr" (.cons (.v 1) .nil))) .nil)))) .nil)
def F_law_same : Fd := ⟨"_law_same", ["actual", "due"], ["actual", "due"], F_law_same_b⟩
def L_law_divisor_0 : Sx := (.cons (.asgP [(0, false), (1, false)] (.cons (.v 1) (.cons (.bin .Sub (.v 0) (.bin .Mult (.bin .FloorDiv (.v 0) (.v 1)) (.v 1))) .nil))) .nil)
def F_law_divisor_b : Sx := (.cons (.whl (.tval (.v 1)) L_law_divisor_0) (.cons (.ret (.fn "abs" (.cons (.v 0) .nil))) .nil))
def F_law_divisor : Fd := ⟨"_law_divisor", ["one", "other"], ["one", "other"], F_law_divisor_b⟩
def F_law_quotient_b : Sx := (.cons (.asg 2 false (.call "_law_divisor" (.cons (.v 0) (.cons (.v 1) .nil)))) (.cons (.ret (.tup (.cons (.bin .FloorDiv (.v 0) (.v 2)) (.cons (.bin .FloorDiv (.v 1) (.v 2)) .nil)))) .nil))
def F_law_quotient : Fd := ⟨"_law_quotient", ["up", "down"], ["up", "down", "common"], F_law_quotient_b⟩
def C_law_years_hold_0 : E := .comp [("k", 2)] (.v 2) (.irng (.cons (.int 1) (.cons (.bin .Add (.v 3) (.int 1)) .nil))) (.tbo .Or (.cons (.tcmp .NotEq (.call "level_for" (.cons (.v 1) (.cons (.v 2) .nil))) (.sub (.v 4) (.bin .Sub (.v 3) (.v 2)))) (.cons (.tcmp .NotEq (.call "level_for" (.cons (.v 9) (.cons (.v 2) .nil))) (.bin .Add (.bin .Mult (.sub (.v 4) (.bin .Sub (.v 3) (.v 2))) (.sub (.v 4) (.bin .Sub (.v 3) (.v 2)))) (.int 2))) .nil))) (.v 2)
def C_law_years_hold_1 : E := .comp [("k", 2)] (.v 2) (.irng (.cons (.v 3) .nil)) (.tcmp .GtE (.sub (.v 1) (.v 2)) (.v 16)) (.v 2)
def C_law_years_hold_2 : E := .comp [("first", 12), ("last", 13)] (.tup (.cons (.v 12) (.cons (.v 13) .nil))) (.ival (.v 5)) .tyes (.tup (.cons (.bin .Sub (.bin .Add (.v 3) (.int 1)) (.v 13)) (.cons (.bin .Sub (.bin .Add (.v 3) (.int 1)) (.v 12)) .nil)))
def C_law_years_hold_3 : E := .comp [("own", 7)] (.v 7) (.ival (.lst (.cons (.v 1) (.cons (.v 9) .nil)))) .tyes (.call "record_years" (.cons (.v 7) .nil))
def C_law_years_hold_4 : E := .comp [("own", 7)] (.v 7) (.ival (.v 1)) .tyes (.bin .Add (.bin .Mult (.v 7) (.v 7)) (.int 2))
def C_law_years_hold_5 : E := .comp [("own", 7)] (.v 7) (.ival (.v 1)) .tyes (.bin .Sub (.int 20) (.v 7))
def C_law_years_hold_6 : E := .comp [("own", 7)] (.v 7) (.ival (.sli (.v 1) .no (.cons (.v 2) .no))) (.tcmp .GtE (.v 7) (.sub (.v 1) (.v 2))) (.v 7)
def C_law_years_hold_7 : E := .comp [("k", 2)] (.v 2) (.irng (.cons (.v 3) .nil)) (.tcmp .Eq C_law_years_hold_6 (.lst .nil)) (.v 2)
def C_law_years_hold_8 : E := .comp [("own", 7)] (.v 7) (.ival (.v 5)) .tyes (.call "_law_quotient" (.cons (.bin .Add (.v 3) (.int 1)) (.cons (.sub (.v 7) (.int 1)) .nil)))
def C_law_years_hold_9 : E := .comp [("one", 6)] (.v 6) (.ival (.v 1)) (.tcmp .Gt (.v 6) (.v 7)) (.v 6)
def C_law_years_hold_10 : E := .comp [("one", 6)] (.v 6) (.ival (.v 1)) (.tcmp .GtE (.v 6) (.v 7)) (.v 6)
def C_law_years_hold_11 : E := .comp [("own", 7)] (.v 7) (.ival (.v 1)) .tyes (.tup (.cons (.bin .Add (.fn "len" (.cons C_law_years_hold_9 .nil)) (.int 1)) (.cons (.fn "len" (.cons C_law_years_hold_10 .nil)) .nil)))
def C_law_years_hold_12 : E := .comp [("k", 2)] (.v 2) (.irng (.cons (.bin .Add (.int 1) (.call "_law_draw" (.cons (.v 0) (.cons (.int 9) .nil)))) .nil)) .tyes (.call "_law_draw" (.cons (.v 0) (.cons (.int 9) .nil)))
def F_law_years_hold_b : Sx := (.cons (.asg 1 false (.fn "tuple" (.cons C_law_years_hold_12 .nil))) (.cons (.asgP [(3, false), (4, false)] (.cons (.fn "len" (.cons (.v 1) .nil)) (.cons (.fn "sorted" (.cons (.v 1) .nil)) .nil))) (.cons (.asg 5 false (.fn "tuple" (.cons C_law_years_hold_11 .nil))) (.cons (.ite (.tbo .Or (.cons (.tnot (.tval (.call "_law_same" (.cons (.call "ranks_of" (.cons (.v 1) .nil)) (.cons (.v 5) .nil))))) (.cons (.tnot (.tval (.call "_law_same" (.cons (.call "returns_of" (.cons (.v 1) .nil)) (.cons (.fn "tuple" (.cons C_law_years_hold_8 .nil)) .nil))))) .nil))) (.cons (.ret (.bl false)) .nil) .nil) (.cons (.asg 8 false (.fn "tuple" (.cons C_law_years_hold_7 .nil))) (.cons (.asgP [(9, false), (10, false), (11, false)] (.cons (.fn "tuple" (.cons C_law_years_hold_4 .nil)) (.cons (.fn "tuple" (.cons C_law_years_hold_5 .nil)) (.cons (.rev (.v 1)) .nil)))) (.cons (.ite (.tbo .Or (.cons (.tcmp .NotEq C_law_years_hold_3 (.bin .Mult (.lst (.cons (.v 8) .nil)) (.int 2))) (.cons (.tcmp .NotEq (.call "ranks_of" (.cons (.v 9) .nil)) (.v 5)) (.cons (.tcmp .NotEq (.call "ranks_of" (.cons (.v 11) .nil)) (.rev (.v 5))) .nil)))) (.cons (.ret (.bl false)) .nil) .nil) (.cons (.ite (.tcmp .NotEq (.call "ranks_of" (.cons (.v 10) .nil)) (.fn "tuple" (.cons C_law_years_hold_2 .nil))) (.cons (.ret (.bl false)) .nil) .nil) (.cons (.asg 14 false (.call "_law_quotient" (.cons (.bin .Add (.sub (.v 4) (.bin .FloorDiv (.bin .Sub (.v 3) (.int 1)) (.int 2))) (.sub (.v 4) (.bin .FloorDiv (.v 3) (.int 2)))) (.cons (.int 2) .nil)))) (.cons (.asg 15 false (.call "_law_quotient" (.cons (.bin .Sub (.bin .Mult (.int 20) (.sub (.v 14) (.int 1))) (.sub (.v 14) (.int 0))) (.cons (.sub (.v 14) (.int 1)) .nil)))) (.cons (.ite (.tbo .Or (.cons (.tcmp .NotEq (.call "median_of" (.cons (.v 1) .nil)) (.v 14)) (.cons (.tcmp .NotEq (.call "median_of" (.cons (.v 10) .nil)) (.v 15)) (.cons (.tcmp .NotEq (.call "median_of" (.cons (.v 11) .nil)) (.v 14)) .nil)))) (.cons (.ret (.bl false)) .nil) .nil) (.cons (.asg 16 false (.call "_law_draw" (.cons (.v 0) (.cons (.int 10) .nil)))) (.cons (.asg 17 false (.fn "tuple" (.cons C_law_years_hold_1 .nil))) (.cons (.ite (.tbo .Or (.cons (.tcmp .NotEq (.call "count_from" (.cons (.v 1) (.cons (.v 16) .nil))) (.fn "len" (.cons (.v 17) .nil))) (.cons (.tnotN (.call "accept_level" (.cons (.v 1) (.cons (.v 16) (.cons (.fn "len" (.cons (.v 17) .nil)) (.cons (.v 17) .nil)))))) .nil))) (.cons (.ret (.bl false)) .nil) .nil) (.cons (.ret (.cmp .Eq C_law_years_hold_0 (.lst .nil))) .nil)))))))))))))))
def F_law_years_hold : Fd := ⟨"_law_years_hold", ["state"], ["state", "years", "k", "many", "rows", "ranks", "one", "own", "records", "raised", "above", "back", "first", "last", "middle", "turned", "level", "up"], F_law_years_hold_b⟩
def C_law_records_hold_0 : E := .comp [("k", 6)] (.v 6) (.irng (.cons (.bin .Add (.v 1) (.int 1)) .nil)) .tyes (.bin .Mult (.v 6) (.sub (.v 7) (.v 6)))
def C_law_records_hold_1 : E := .comp [("k", 6)] (.v 6) (.irng (.cons (.bin .Add (.v 1) (.int 2)) .nil)) .tyes (.call "record_ways" (.cons (.v 1) (.cons (.v 6) .nil)))
def C_law_records_hold_2 : E := .comp [("k", 6)] (.v 6) (.irng (.cons (.bin .Add (.v 5) (.int 1)) .nil)) .tyes (.bin .Add (.ife (.tcmp .Lt (.v 6) (.fn "len" (.cons (.v 2) .nil))) (.bin .Mult (.bin .Sub (.v 5) (.int 1)) (.sub (.v 2) (.v 6))) (.int 0)) (.ife (.tval (.v 6)) (.sub (.v 2) (.bin .Sub (.v 6) (.int 1))) (.int 0)))
def L_law_records_hold_0 : Sx := (.cons (.asg 2 false C_law_records_hold_2) (.cons (.asgP [(4, false), (3, false)] (.cons (.bin .Mult (.v 4) (.v 5)) (.cons (.call "_law_quotient" (.cons (.bin .Add (.bin .Mult (.sub (.v 3) (.int 0)) (.v 5)) (.sub (.v 3) (.int 1))) (.cons (.bin .Mult (.sub (.v 3) (.int 1)) (.v 5)) .nil))) .nil))) .nil))
def F_law_records_hold_b : Sx := (.cons (.asgP [(1, false), (2, false), (3, false)] (.cons (.bin .Add (.int 1) (.call "_law_draw" (.cons (.v 0) (.cons (.int 11) .nil)))) (.cons (.lst (.cons (.int 1) .nil)) (.cons (.tup (.cons (.int 0) (.cons (.int 1) .nil))) .nil)))) (.cons (.asg 4 false (.int 1)) (.cons (.for_ (.v 5) (.irng (.cons (.int 1) (.cons (.bin .Add (.v 1) (.int 1)) .nil))) L_law_records_hold_0) (.cons (.asg 7 false C_law_records_hold_1) (.cons (.ite (.tbo .Or (.cons (.tcmp .NotEq (.v 7) (.bin .Add (.v 2) (.lst (.cons (.int 0) .nil)))) (.cons (.tcmp .NotEq (.fn "sum" (.cons (.v 7) .nil)) (.v 4)) (.cons (.tcmp .NotEq (.call "mean_records" (.cons (.v 1) .nil)) (.v 3)) .nil)))) (.cons (.ret (.bl false)) .nil) .nil) (.cons (.ret (.cmp .Eq (.call "_law_quotient" (.cons (.fn "sum" (.cons C_law_records_hold_0 .nil)) (.cons (.v 4) .nil))) (.v 3))) .nil))))))
def F_law_records_hold : Fd := ⟨"_law_records_hold", ["state"], ["state", "many", "rows", "mean", "whole", "own", "k", "told"], F_law_records_hold_b⟩
def C_law_odds_hold_0 : E := .comp [("own", 20)] (.v 20) (.ival (.v 17)) (.tcmp .GtE (.v 20) (.v 18)) (.v 20)
def C_law_odds_hold_1 : E := .comp [("k", 10)] (.v 10) (.irng (.cons (.bin .Add (.int 1) (.call "_law_draw" (.cons (.v 0) (.cons (.int 8) .nil)))) .nil)) .tyes (.call "_law_draw" (.cons (.v 0) (.cons (.int 8) .nil)))
def C_law_odds_hold_2 : E := .comp [("many", 6)] (.v 6) (.irng (.cons (.v 11) (.cons (.int 41) .nil))) (.tcmp .GtE (.bin .Mult (.sub (.call "odds_from" (.cons (.v 2) (.cons (.v 6) (.cons (.v 11) .nil)))) (.int 0)) (.sub (.v 14) (.int 1))) (.bin .Mult (.sub (.v 14) (.int 0)) (.sub (.call "odds_from" (.cons (.v 2) (.cons (.v 6) (.cons (.v 11) .nil)))) (.int 1)))) (.v 6)
def C_law_odds_hold_3 : E := .comp [("k", 10)] (.v 10) (.irng (.cons (.bin .Add (.v 13) (.int 1)) .nil)) (.tbo .And (.cons (.tcmp .LtE (.v 10) (.v 3)) (.cons (.tcmp .LtE (.bin .Sub (.v 13) (.v 10)) (.v 4)) .nil))) (.bin .Mult (.sub (.sub (.sub (.v 5) (.int 0)) (.int 0)) (.v 10)) (.sub (.sub (.sub (.v 5) (.int 1)) (.int 0)) (.bin .Sub (.v 13) (.v 10))))
def C_law_odds_hold_4 : E := .comp [("size", 13)] (.v 13) (.irng (.cons (.bin .Add (.bin .Add (.v 3) (.v 4)) (.int 1)) .nil)) .tyes (.fn "sum" (.cons C_law_odds_hold_3 .nil))
def L_law_odds_hold_0 : Sx := (.cons (.ite (.tcmp .NotEq (.call "odds_from" (.cons (.v 2) (.cons (.v 6) (.cons (.v 11) .nil)))) (.call "_law_quotient" (.cons (.fn "sum" (.cons (.sli (.v 7) (.cons (.v 11) .no) .no) .nil)) (.cons (.v 8) .nil)))) (.cons (.ret (.bl false)) .nil) .nil) (.cons (.ite (.tbo .And (.cons (.tval (.v 11)) (.cons (.tcmp .NotEq (.call "odds_from" (.cons (.tup (.cons (.bin .Sub (.v 1) (.sub (.v 2) (.int 0))) (.cons (.v 1) .nil))) (.cons (.v 6) (.cons (.bin .Add (.bin .Sub (.v 6) (.v 11)) (.int 1)) .nil)))) (.call "_law_quotient" (.cons (.fn "sum" (.cons (.sli (.v 7) .no (.cons (.v 11) .no)) .nil)) (.cons (.v 8) .nil)))) .nil))) (.cons (.ret (.bl false)) .nil) .nil) .nil))
def C_law_odds_hold_5 : E := .comp [("k", 10)] (.v 10) (.irng (.cons (.bin .Add (.fn "len" (.cons (.v 7) .nil)) (.int 1)) .nil)) .tyes (.bin .Add (.ife (.tcmp .Lt (.v 10) (.fn "len" (.cons (.v 7) .nil))) (.bin .Mult (.sub (.v 7) (.v 10)) (.bin .Sub (.v 1) (.sub (.v 2) (.int 0)))) (.int 0)) (.ife (.tval (.v 10)) (.bin .Mult (.sub (.v 7) (.bin .Sub (.v 10) (.int 1))) (.sub (.v 2) (.int 0))) (.int 0)))
def L_law_odds_hold_1 : Sx := (.cons (.asgP [(7, false), (8, false)] (.cons C_law_odds_hold_5 (.cons (.bin .Mult (.v 8) (.v 1)) .nil))) .nil)
def L_law_odds_hold_2 : Sx := (.cons (.asgP [(7, false), (8, false)] (.cons (.lst (.cons (.int 1) .nil)) (.cons (.int 1) .nil))) (.cons (.for_ (.v 9) (.irng (.cons (.v 6) .nil)) L_law_odds_hold_1) (.cons (.app 5 (.tup (.cons (.v 7) (.cons (.v 8) .nil)))) (.cons (.for_ (.v 11) (.irng (.cons (.bin .Add (.v 6) (.int 1)) .nil)) L_law_odds_hold_0) .nil))))
def F_law_odds_hold_b : Sx := (.cons (.asg 1 false (.bin .Add (.int 1) (.call "_law_draw" (.cons (.v 0) (.cons (.int 6) .nil))))) (.cons (.asgP [(2, false), (3, false), (4, false)] (.cons (.tup (.cons (.call "_law_draw" (.cons (.v 0) (.cons (.bin .Add (.v 1) (.int 1)) .nil))) (.cons (.v 1) .nil))) (.cons (.bin .Add (.int 1) (.call "_law_draw" (.cons (.v 0) (.cons (.int 5) .nil)))) (.cons (.bin .Add (.int 1) (.call "_law_draw" (.cons (.v 0) (.cons (.int 5) .nil)))) .nil)))) (.cons (.asg 5 true (.lst .nil)) (.cons (.for_ (.v 6) (.ival (.lst (.cons (.v 3) (.cons (.v 4) (.cons (.bin .Add (.v 3) (.v 4)) .nil))))) L_law_odds_hold_2) (.cons (.asg 12 false C_law_odds_hold_4) (.cons (.ite (.tbo .Or (.cons (.tcmp .NotEq (.v 12) (.sub (.sub (.v 5) (.int 2)) (.int 0))) (.cons (.tcmp .NotEq (.bin .Mult (.sub (.sub (.v 5) (.int 0)) (.int 1)) (.sub (.sub (.v 5) (.int 1)) (.int 1))) (.sub (.sub (.v 5) (.int 2)) (.int 1))) .nil))) (.cons (.ret (.bl false)) .nil) .nil) (.cons (.asgP [(11, false), (14, false)] (.cons (.bin .Add (.int 1) (.call "_law_draw" (.cons (.v 0) (.cons (.int 4) .nil)))) (.cons (.tup (.cons (.call "_law_draw" (.cons (.v 0) (.cons (.int 10) .nil))) (.cons (.int 10) .nil))) .nil))) (.cons (.asg 15 false C_law_odds_hold_2) (.cons (.asg 16 false (.call "fewest_years" (.cons (.v 2) (.cons (.v 11) (.cons (.v 14) .nil))))) (.cons (.ite (.tbo .Or (.cons (.tbo .And (.cons (.tval (.v 15)) (.cons (.tcmp .NotEq (.v 16) (.sub (.v 15) (.int 0))) .nil))) (.cons (.tbo .And (.cons (.tnot (.tval (.v 15))) (.cons (.tnotN (.v 16)) (.cons (.tcmp .Lt (.v 16) (.int 41)) .nil)))) .nil))) (.cons (.ret (.bl false)) .nil) .nil) (.cons (.asg 17 false (.fn "tuple" (.cons C_law_odds_hold_1 .nil))) (.cons (.asgP [(18, false), (19, false)] (.cons (.call "_law_draw" (.cons (.v 0) (.cons (.int 9) .nil))) (.cons (.int 0) .nil))) (.cons (.asg 19 false (.fn "len" (.cons C_law_odds_hold_0 .nil))) (.cons (.asg 21 false (.call "odds_from" (.cons (.v 2) (.cons (.fn "len" (.cons (.v 17) .nil)) (.cons (.v 19) .nil))))) (.cons (.asg 22 false (.call "odds_from" (.cons (.tup (.cons (.bin .Sub (.v 1) (.sub (.v 2) (.int 0))) (.cons (.v 1) .nil))) (.cons (.fn "len" (.cons (.v 17) .nil)) (.cons (.bin .Sub (.fn "len" (.cons (.v 17) .nil)) (.v 19)) .nil))))) (.cons (.asg 23 false (.call "judge_claim" (.cons (.v 17) (.cons (.v 18) (.cons (.v 2) (.cons (.v 14) .nil)))))) (.cons (.ite (.tcmp .Lt (.bin .Mult (.sub (.v 21) (.int 0)) (.sub (.v 14) (.int 1))) (.bin .Mult (.sub (.v 14) (.int 0)) (.sub (.v 21) (.int 1)))) (.cons (.ret (.cmp .Eq (.v 23) (.tup (.cons (.str "more") (.cons (.v 21) .nil))))) .nil) .nil) (.cons (.ret (.cmp .Eq (.v 23) (.ife (.tcmp .Lt (.bin .Mult (.sub (.v 22) (.int 0)) (.sub (.v 14) (.int 1))) (.bin .Mult (.sub (.v 14) (.int 0)) (.sub (.v 22) (.int 1)))) (.tup (.cons (.str "fewer") (.cons (.v 22) .nil))) (.tup (.cons (.str "fits") .nil))))) .nil))))))))))))))))))
def F_law_odds_hold : Fd := ⟨"_law_odds_hold", ["state"], ["state", "down", "odds", "one", "other", "just", "many", "parts", "whole", "turn", "k", "least", "both", "size", "limit", "good", "told", "years", "level", "had", "own", "more", "fewer", "heard"], F_law_odds_hold_b⟩
def L_law_0 : Sx := (.cons (.ite (.tbo .Or (.cons (.tnot (.tval (.call "_law_years_hold" (.cons (.v 1) .nil)))) (.cons (.tnot (.tval (.call "_law_records_hold" (.cons (.v 1) .nil)))) (.cons (.tnot (.tval (.call "_law_odds_hold" (.cons (.v 1) .nil)))) .nil)))) (.cons (.ret (.bl false)) .nil) .nil) .nil)
def lawBody : Sx := (.cons (.for_ (.v 2) (.irng (.cons (.int 2) .nil)) L_law_0) (.cons (.ret (.bl true)) .nil))
def tab : List Fd := [F_is_integer, F_is_between, F_check_years, F_check_level, F_quotient, F_ranks_of, F_returns_of, F_median_of, F_count_from, F_level_for, F_record_years, F_mean_records, F_record_ways, F_check_odds, F_check_counts, F_power, F_rows_from, F_odds_from, F_check_limit, F_judge_claim, F_fewest_years, F_one_more, F_accept_level, F_law_same, F_law_divisor, F_law_quotient, F_law_years_hold, F_law_records_hold, F_law_odds_hold]
def tb : Tb := ⟨["is_integer", "is_between", "check_years", "check_level", "quotient", "ranks_of", "returns_of", "median_of", "count_from", "level_for", "record_years", "mean_records", "record_ways", "check_odds", "check_counts", "power", "rows_from", "odds_from", "check_limit", "judge_claim", "fewest_years", "one_more", "accept_level", "_law_same", "_law_divisor", "_law_quotient", "_law_years_hold", "_law_records_hold", "_law_odds_hold", "_law_draw"], [("MAX_SIZE", 1000000000000), ("MAX_PART", 1000), ("MAX_YEARS", 200)], ["len", "abs", "sum", "all", "sorted", "repr", "tuple", "range", "enumerate", "zip", "isinstance", "int", "bool", "str"]⟩

theorem c_is_integer : (fnScB F_is_integer.N F_is_integer.ps (defScope (top 9)) && mSs tb F_is_integer.N (defScope (top 9)) F_is_integer.body (defBody (top 9))) = true := by decide +kernel
theorem c_is_between : (fnScB F_is_between.N F_is_between.ps (defScope (top 10)) && mSs tb F_is_between.N (defScope (top 10)) F_is_between.body (defBody (top 10))) = true := by decide +kernel
theorem c_check_years : (fnScB F_check_years.N F_check_years.ps (defScope (top 12)) && mSs tb F_check_years.N (defScope (top 12)) F_check_years.body (defBody (top 12))) = true := by decide +kernel
theorem c_check_level : (fnScB F_check_level.N F_check_level.ps (defScope (top 13)) && mSs tb F_check_level.N (defScope (top 13)) F_check_level.body (defBody (top 13))) = true := by decide +kernel
theorem c_quotient : (fnScB F_quotient.N F_quotient.ps (defScope (top 14)) && mSs tb F_quotient.N (defScope (top 14)) F_quotient.body (defBody (top 14))) = true := by decide +kernel
theorem c_ranks_of : (fnScB F_ranks_of.N F_ranks_of.ps (defScope (top 15)) && mSs tb F_ranks_of.N (defScope (top 15)) F_ranks_of.body (defBody (top 15))) = true := by decide +kernel
theorem c_returns_of : (fnScB F_returns_of.N F_returns_of.ps (defScope (top 16)) && mSs tb F_returns_of.N (defScope (top 16)) F_returns_of.body (defBody (top 16))) = true := by decide +kernel
theorem c_median_of : (fnScB F_median_of.N F_median_of.ps (defScope (top 17)) && mSs tb F_median_of.N (defScope (top 17)) F_median_of.body (defBody (top 17))) = true := by decide +kernel
theorem c_count_from : (fnScB F_count_from.N F_count_from.ps (defScope (top 18)) && mSs tb F_count_from.N (defScope (top 18)) F_count_from.body (defBody (top 18))) = true := by decide +kernel
theorem c_level_for : (fnScB F_level_for.N F_level_for.ps (defScope (top 19)) && mSs tb F_level_for.N (defScope (top 19)) F_level_for.body (defBody (top 19))) = true := by decide +kernel
theorem c_record_years : (fnScB F_record_years.N F_record_years.ps (defScope (top 20)) && mSs tb F_record_years.N (defScope (top 20)) F_record_years.body (defBody (top 20))) = true := by decide +kernel
theorem c_mean_records : (fnScB F_mean_records.N F_mean_records.ps (defScope (top 21)) && mSs tb F_mean_records.N (defScope (top 21)) F_mean_records.body (defBody (top 21))) = true := by decide +kernel
theorem c_record_ways : (fnScB F_record_ways.N F_record_ways.ps (defScope (top 22)) && mSs tb F_record_ways.N (defScope (top 22)) F_record_ways.body (defBody (top 22))) = true := by decide +kernel
theorem c_check_odds : (fnScB F_check_odds.N F_check_odds.ps (defScope (top 23)) && mSs tb F_check_odds.N (defScope (top 23)) F_check_odds.body (defBody (top 23))) = true := by decide +kernel
theorem c_check_counts : (fnScB F_check_counts.N F_check_counts.ps (defScope (top 24)) && mSs tb F_check_counts.N (defScope (top 24)) F_check_counts.body (defBody (top 24))) = true := by decide +kernel
theorem c_power : (fnScB F_power.N F_power.ps (defScope (top 25)) && mSs tb F_power.N (defScope (top 25)) F_power.body (defBody (top 25))) = true := by decide +kernel
theorem c_rows_from : (fnScB F_rows_from.N F_rows_from.ps (defScope (top 26)) && mSs tb F_rows_from.N (defScope (top 26)) F_rows_from.body (defBody (top 26))) = true := by decide +kernel
theorem c_odds_from : (fnScB F_odds_from.N F_odds_from.ps (defScope (top 27)) && mSs tb F_odds_from.N (defScope (top 27)) F_odds_from.body (defBody (top 27))) = true := by decide +kernel
theorem c_check_limit : (fnScB F_check_limit.N F_check_limit.ps (defScope (top 28)) && mSs tb F_check_limit.N (defScope (top 28)) F_check_limit.body (defBody (top 28))) = true := by decide +kernel
theorem c_judge_claim : (fnScB F_judge_claim.N F_judge_claim.ps (defScope (top 29)) && mSs tb F_judge_claim.N (defScope (top 29)) F_judge_claim.body (defBody (top 29))) = true := by decide +kernel
theorem c_fewest_years : (fnScB F_fewest_years.N F_fewest_years.ps (defScope (top 30)) && mSs tb F_fewest_years.N (defScope (top 30)) F_fewest_years.body (defBody (top 30))) = true := by decide +kernel
theorem c_one_more : (fnScB F_one_more.N F_one_more.ps (defScope (top 31)) && mSs tb F_one_more.N (defScope (top 31)) F_one_more.body (defBody (top 31))) = true := by decide +kernel
theorem c_accept_level : (fnScB F_accept_level.N F_accept_level.ps (defScope (top 32)) && mSs tb F_accept_level.N (defScope (top 32)) F_accept_level.body (defBody (top 32))) = true := by decide +kernel
theorem c_law_same : (fnScB F_law_same.N F_law_same.ps (defScope (top 36)) && mSs tb F_law_same.N (defScope (top 36)) F_law_same.body (defBody (top 36))) = true := by decide +kernel
theorem c_law_divisor : (fnScB F_law_divisor.N F_law_divisor.ps (defScope (top 37)) && mSs tb F_law_divisor.N (defScope (top 37)) F_law_divisor.body (defBody (top 37))) = true := by decide +kernel
theorem c_law_quotient : (fnScB F_law_quotient.N F_law_quotient.ps (defScope (top 38)) && mSs tb F_law_quotient.N (defScope (top 38)) F_law_quotient.body (defBody (top 38))) = true := by decide +kernel
theorem c_law_years_hold : (fnScB F_law_years_hold.N F_law_years_hold.ps (defScope (top 39)) && mSs tb F_law_years_hold.N (defScope (top 39)) F_law_years_hold.body (defBody (top 39))) = true := by decide +kernel
theorem c_law_records_hold : (fnScB F_law_records_hold.N F_law_records_hold.ps (defScope (top 40)) && mSs tb F_law_records_hold.N (defScope (top 40)) F_law_records_hold.body (defBody (top 40))) = true := by decide +kernel
theorem c_law_odds_hold : (fnScB F_law_odds_hold.N F_law_odds_hold.ps (defScope (top 41)) && mSs tb F_law_odds_hold.N (defScope (top 41)) F_law_odds_hold.body (defBody (top 41))) = true := by decide +kernel
end K63
end

section
set_option Elab.async false
set_option linter.all false
set_option maxRecDepth 100000
set_option maxHeartbeats 0
namespace K63
open PySem PySem.Spec PySem.Calls PyProof.Rows L2 RG
/-! ### the head -/
def fn : List He.DefD := [dOf (top 9) "is_integer", dOf (top 10) "is_between", dOf (top 12) "check_years", dOf (top 13) "check_level", dOf (top 14) "quotient", dOf (top 15) "ranks_of", dOf (top 16) "returns_of", dOf (top 17) "median_of", dOf (top 18) "count_from", dOf (top 19) "level_for", dOf (top 20) "record_years", dOf (top 21) "mean_records", dOf (top 22) "record_ways", dOf (top 23) "check_odds", dOf (top 24) "check_counts", dOf (top 25) "power", dOf (top 26) "rows_from", dOf (top 27) "odds_from", dOf (top 28) "check_limit", dOf (top 29) "judge_claim", dOf (top 30) "fewest_years", dOf (top 31) "one_more", dOf (top 32) "accept_level", dOf (top 34) "_law_start", dOf (top 35) "_law_draw", dOf (top 36) "_law_same", dOf (top 37) "_law_divisor", dOf (top 38) "_law_quotient", dOf (top 39) "_law_years_hold", dOf (top 40) "_law_records_hold", dOf (top 41) "_law_odds_hold", dOf (top 42) "law"]
def fa : List He.Fa := [.glo "is_integer", .glo "is_between", .glo "check_years", .glo "check_level", .glo "quotient", .glo "ranks_of", .glo "returns_of", .glo "median_of", .glo "count_from", .glo "level_for", .glo "record_years", .glo "mean_records", .glo "record_ways", .glo "check_odds", .glo "check_counts", .glo "power", .glo "rows_from", .glo "odds_from", .glo "check_limit", .glo "judge_claim", .glo "fewest_years", .glo "one_more", .glo "accept_level", .glo "_law_start", .glo "_law_draw", .glo "_law_same", .glo "_law_divisor", .glo "_law_quotient", .glo "_law_years_hold", .glo "_law_records_hold", .glo "_law_odds_hold", .glo "law", .free "len", .free "abs", .free "sum", .free "all", .free "sorted", .free "repr", .free "tuple", .free "range", .free "enumerate", .free "zip", .free "isinstance", .free "int", .free "bool", .free "str", .int "MAX_SIZE" 1000000000000, .int "MAX_PART" 1000, .int "MAX_YEARS" 200]
abbrev R : PySem.W.OpenRow := PySem.W.OpenLaw.row PySem.Challenge.rw_raingauged_k63_whole_records_and_odds_of
abbrev hk : PySem.W.Hook := He.hookD 4 fa fn
def ob (s : PySem.W.SharedT) : He.AlD := He.obsDG 4 fa fn (HandSHeadRun.getT s)
theorem ob_eq (s : PySem.W.SharedT) : ob s = hk.obs s.abs := He.obsDG_eq (HandSHeadRun.getT_eq s)
def loose : List Str := [Str.ofString "is_integer", Str.ofString "is_between", Str.ofString "check_years", Str.ofString "check_level", Str.ofString "quotient", Str.ofString "ranks_of", Str.ofString "returns_of", Str.ofString "median_of", Str.ofString "count_from", Str.ofString "level_for", Str.ofString "record_years", Str.ofString "mean_records", Str.ofString "record_ways", Str.ofString "check_odds", Str.ofString "check_counts", Str.ofString "power", Str.ofString "rows_from", Str.ofString "odds_from", Str.ofString "check_limit", Str.ofString "judge_claim", Str.ofString "fewest_years", Str.ofString "one_more", Str.ofString "accept_level", Str.ofString "_law_start", Str.ofString "_law_draw", Str.ofString "_law_same", Str.ofString "_law_divisor", Str.ofString "_law_quotient", Str.ofString "_law_years_hold", Str.ofString "_law_records_hold", Str.ofString "_law_odds_hold", Str.ofString "MAX_SIZE", Str.ofString "MAX_PART", Str.ofString "MAX_YEARS", Str.ofString "RainError", Str.ofString "RecordError", Str.ofString "ArgumentError", Str.ofString "PaperError"]
def qv : Program := PySem.W.view R.prog [42]
theorem run (w : World) : HandSHeadRun.RunEq R (PySem.W.view R.prog [42]) hk ob 2000 loose w := by
  intro os
  kernel_rfl
end K63
end

section
set_option Elab.async false
set_option linter.all false
set_option maxRecDepth 100000
set_option maxHeartbeats 0
namespace K63
open PySem PySem.Spec PySem.Calls PyProof.Rows L2 RG
/-! ### the table's facts, the law -/
section
variable {P : Program} {w : World} {K : PySem.W.Frag} {mg : Str → Option Value} {h base : Heap}
theorem gs_ok (X : K.In h) (G : h.Ns mainGlobals mg) (c : He.SaysD fa fn K) : ∀ (x : Str) (k : Int), tb.gs.contains (x, k) = true → ∃ u, mg x = some u ∧ RelV (.int k) u := by
  intro x k hx
  have hx : (x, k) ∈ tb.gs := by simpa using hx
  have hx : (x, k) = (Str.ofString "MAX_SIZE", (1000000000000 : Int)) ∨ (x, k) = (Str.ofString "MAX_PART", (1000 : Int)) ∨ (x, k) = (Str.ofString "MAX_YEARS", (200 : Int)) := by simpa [tb] using hx
  rcases hx with hx | hx | hx
  · cases hx
    obtain ⟨t, e⟩ := He.int_ok X G (c.fact 46 (f := .int "MAX_SIZE" 1000000000000) rfl)
    exact ⟨_, e, t, rfl⟩
  · cases hx
    obtain ⟨t, e⟩ := He.int_ok X G (c.fact 47 (f := .int "MAX_PART" 1000) rfl)
    exact ⟨_, e, t, rfl⟩
  · cases hx
    obtain ⟨t, e⟩ := He.int_ok X G (c.fact 48 (f := .int "MAX_YEARS" 200) rfl)
    exact ⟨_, e, t, rfl⟩
theorem bs_ok (X : K.In h) (G : h.Ns mainGlobals mg) (c : He.SaysD fa fn K) : ∀ (x : Str), tb.bs.contains x = true → mg x = none := by
  intro x hx
  have hx : x = Str.ofString "len" ∨ x = Str.ofString "abs" ∨ x = Str.ofString "sum" ∨ x = Str.ofString "all" ∨ x = Str.ofString "sorted" ∨ x = Str.ofString "repr" ∨ x = Str.ofString "tuple" ∨ x = Str.ofString "range" ∨ x = Str.ofString "enumerate" ∨ x = Str.ofString "zip" ∨ x = Str.ofString "isinstance" ∨ x = Str.ofString "int" ∨ x = Str.ofString "bool" ∨ x = Str.ofString "str" := by simpa [tb] using hx
  rcases hx with rfl | rfl | rfl | rfl | rfl | rfl | rfl | rfl | rfl | rfl | rfl | rfl | rfl | rfl
  · exact He.free_ok X G (c.fact 32 (f := .free "len") rfl)
  · exact He.free_ok X G (c.fact 33 (f := .free "abs") rfl)
  · exact He.free_ok X G (c.fact 34 (f := .free "sum") rfl)
  · exact He.free_ok X G (c.fact 35 (f := .free "all") rfl)
  · exact He.free_ok X G (c.fact 36 (f := .free "sorted") rfl)
  · exact He.free_ok X G (c.fact 37 (f := .free "repr") rfl)
  · exact He.free_ok X G (c.fact 38 (f := .free "tuple") rfl)
  · exact He.free_ok X G (c.fact 39 (f := .free "range") rfl)
  · exact He.free_ok X G (c.fact 40 (f := .free "enumerate") rfl)
  · exact He.free_ok X G (c.fact 41 (f := .free "zip") rfl)
  · exact He.free_ok X G (c.fact 42 (f := .free "isinstance") rfl)
  · exact He.free_ok X G (c.fact 43 (f := .free "int") rfl)
  · exact He.free_ok X G (c.fact 44 (f := .free "bool") rfl)
  · exact He.free_ok X G (c.fact 45 (f := .free "str") rfl)
theorem ht_ok (X : K.In h) (G : h.Ns mainGlobals mg) (c : He.SaysD fa fn K) : ∀ x, tb.fs.contains x = true → x ≠ "_law_draw" → InTab K mg tb tab x := by
  intro x hx hd
  have hx : x = Str.ofString "is_integer" ∨ x = Str.ofString "is_between" ∨ x = Str.ofString "check_years" ∨ x = Str.ofString "check_level" ∨ x = Str.ofString "quotient" ∨ x = Str.ofString "ranks_of" ∨ x = Str.ofString "returns_of" ∨ x = Str.ofString "median_of" ∨ x = Str.ofString "count_from" ∨ x = Str.ofString "level_for" ∨ x = Str.ofString "record_years" ∨ x = Str.ofString "mean_records" ∨ x = Str.ofString "record_ways" ∨ x = Str.ofString "check_odds" ∨ x = Str.ofString "check_counts" ∨ x = Str.ofString "power" ∨ x = Str.ofString "rows_from" ∨ x = Str.ofString "odds_from" ∨ x = Str.ofString "check_limit" ∨ x = Str.ofString "judge_claim" ∨ x = Str.ofString "fewest_years" ∨ x = Str.ofString "one_more" ∨ x = Str.ofString "accept_level" ∨ x = Str.ofString "_law_same" ∨ x = Str.ofString "_law_divisor" ∨ x = Str.ofString "_law_quotient" ∨ x = Str.ofString "_law_years_hold" ∨ x = Str.ofString "_law_records_hold" ∨ x = Str.ofString "_law_odds_hold" ∨ x = Str.ofString "_law_draw" := by simpa [tb] using hx
  rcases hx with rfl | rfl | rfl | rfl | rfl | rfl | rfl | rfl | rfl | rfl | rfl | rfl | rfl | rfl | rfl | rfl | rfl | rfl | rfl | rfl | rfl | rfl | rfl | rfl | rfl | rfl | rfl | rfl | rfl | rfl
  · exact inTab_of (F := F_is_integer) (st := top 9) X G c 0 0 rfl rfl rfl (fun _ _ _ _ _ _ us hl => match us, hl with | [_], _ => rfl) c_is_integer
  · exact inTab_of (F := F_is_between) (st := top 10) X G c 1 1 rfl rfl rfl (fun _ _ _ _ _ _ us hl => match us, hl with | [_, _, _], _ => rfl) c_is_between
  · exact inTab_of (F := F_check_years) (st := top 12) X G c 2 2 rfl rfl rfl (fun _ _ _ _ _ _ us hl => match us, hl with | [_], _ => rfl) c_check_years
  · exact inTab_of (F := F_check_level) (st := top 13) X G c 3 3 rfl rfl rfl (fun _ _ _ _ _ _ us hl => match us, hl with | [_], _ => rfl) c_check_level
  · exact inTab_of (F := F_quotient) (st := top 14) X G c 4 4 rfl rfl rfl (fun _ _ _ _ _ _ us hl => match us, hl with | [_, _], _ => rfl) c_quotient
  · exact inTab_of (F := F_ranks_of) (st := top 15) X G c 5 5 rfl rfl rfl (fun _ _ _ _ _ _ us hl => match us, hl with | [_], _ => rfl) c_ranks_of
  · exact inTab_of (F := F_returns_of) (st := top 16) X G c 6 6 rfl rfl rfl (fun _ _ _ _ _ _ us hl => match us, hl with | [_], _ => rfl) c_returns_of
  · exact inTab_of (F := F_median_of) (st := top 17) X G c 7 7 rfl rfl rfl (fun _ _ _ _ _ _ us hl => match us, hl with | [_], _ => rfl) c_median_of
  · exact inTab_of (F := F_count_from) (st := top 18) X G c 8 8 rfl rfl rfl (fun _ _ _ _ _ _ us hl => match us, hl with | [_, _], _ => rfl) c_count_from
  · exact inTab_of (F := F_level_for) (st := top 19) X G c 9 9 rfl rfl rfl (fun _ _ _ _ _ _ us hl => match us, hl with | [_, _], _ => rfl) c_level_for
  · exact inTab_of (F := F_record_years) (st := top 20) X G c 10 10 rfl rfl rfl (fun _ _ _ _ _ _ us hl => match us, hl with | [_], _ => rfl) c_record_years
  · exact inTab_of (F := F_mean_records) (st := top 21) X G c 11 11 rfl rfl rfl (fun _ _ _ _ _ _ us hl => match us, hl with | [_], _ => rfl) c_mean_records
  · exact inTab_of (F := F_record_ways) (st := top 22) X G c 12 12 rfl rfl rfl (fun _ _ _ _ _ _ us hl => match us, hl with | [_, _], _ => rfl) c_record_ways
  · exact inTab_of (F := F_check_odds) (st := top 23) X G c 13 13 rfl rfl rfl (fun _ _ _ _ _ _ us hl => match us, hl with | [_], _ => rfl) c_check_odds
  · exact inTab_of (F := F_check_counts) (st := top 24) X G c 14 14 rfl rfl rfl (fun _ _ _ _ _ _ us hl => match us, hl with | [_, _], _ => rfl) c_check_counts
  · exact inTab_of (F := F_power) (st := top 25) X G c 15 15 rfl rfl rfl (fun _ _ _ _ _ _ us hl => match us, hl with | [_, _], _ => rfl) c_power
  · exact inTab_of (F := F_rows_from) (st := top 26) X G c 16 16 rfl rfl rfl (fun _ _ _ _ _ _ us hl => match us, hl with | [_, _, _], _ => rfl) c_rows_from
  · exact inTab_of (F := F_odds_from) (st := top 27) X G c 17 17 rfl rfl rfl (fun _ _ _ _ _ _ us hl => match us, hl with | [_, _, _], _ => rfl) c_odds_from
  · exact inTab_of (F := F_check_limit) (st := top 28) X G c 18 18 rfl rfl rfl (fun _ _ _ _ _ _ us hl => match us, hl with | [_], _ => rfl) c_check_limit
  · exact inTab_of (F := F_judge_claim) (st := top 29) X G c 19 19 rfl rfl rfl (fun _ _ _ _ _ _ us hl => match us, hl with | [_, _, _, _], _ => rfl) c_judge_claim
  · exact inTab_of (F := F_fewest_years) (st := top 30) X G c 20 20 rfl rfl rfl (fun _ _ _ _ _ _ us hl => match us, hl with | [_, _, _], _ => rfl) c_fewest_years
  · exact inTab_of (F := F_one_more) (st := top 31) X G c 21 21 rfl rfl rfl (fun _ _ _ _ _ _ us hl => match us, hl with | [_, _, _, _], _ => rfl) c_one_more
  · exact inTab_of (F := F_accept_level) (st := top 32) X G c 22 22 rfl rfl rfl (fun _ _ _ _ _ _ us hl => match us, hl with | [_, _, _, _], _ => rfl) c_accept_level
  · exact inTab_of (F := F_law_same) (st := top 36) X G c 25 25 rfl rfl rfl (fun _ _ _ _ _ _ us hl => match us, hl with | [_, _], _ => rfl) c_law_same
  · exact inTab_of (F := F_law_divisor) (st := top 37) X G c 26 26 rfl rfl rfl (fun _ _ _ _ _ _ us hl => match us, hl with | [_, _], _ => rfl) c_law_divisor
  · exact inTab_of (F := F_law_quotient) (st := top 38) X G c 27 27 rfl rfl rfl (fun _ _ _ _ _ _ us hl => match us, hl with | [_, _], _ => rfl) c_law_quotient
  · exact inTab_of (F := F_law_years_hold) (st := top 39) X G c 28 28 rfl rfl rfl (fun _ _ _ _ _ _ us hl => match us, hl with | [_], _ => rfl) c_law_years_hold
  · exact inTab_of (F := F_law_records_hold) (st := top 40) X G c 29 29 rfl rfl rfl (fun _ _ _ _ _ _ us hl => match us, hl with | [_], _ => rfl) c_law_records_hold
  · exact inTab_of (F := F_law_odds_hold) (st := top 41) X G c 30 30 rfl rfl rfl (fun _ _ _ _ _ _ us hl => match us, hl with | [_], _ => rfl) c_law_odds_hold
  · exact absurd rfl hd
theorem around (X : K.In h) (G : h.Ns mainGlobals mg) (c : He.SaysD fa fn K) (k : Nat) : Around0 P w K mg base tb (callF tab k) k := by
  obtain ⟨fdD, DD⟩ := c.def_ 24 (d := dOf (top 35) "_law_draw") rfl
  refine tab_ok (gs_ok X G c) (bs_ok X G c) ⟨_, fdD, He.glo_ok X G (c.fact 24 (f := .glo "_law_draw") rfl), DD.kp, DD.bindsN fun _ _ _ _ _ _ us hl => match us, hl with | [_, _], _ => rfl, fun k => draw_ok (st := top 35) DD (by decide +kernel) rfl (He.free_ok X G (c.fact 32 (f := .free "len") rfl)) (He.free_ok X G (c.fact 43 (f := .free "int") rfl)) rfl⟩ (ht_ok X G c) k
theorem start_fn (X : K.In h) (G : h.Ns mainGlobals mg) (c : He.SaysD fa fn K) {f : Addr} {fd : FuncData} (D : FunD K "_law_start" "_law_start" (defArgs (top 34)) (defBody (top 34)) (defScope (top 34)) [] [] f fd) : FnOk P w K mg base L2.CX0 1 f fd ["script"] (spStart K) :=
  start_ok D (by decide +kernel) rfl (He.free_ok X G (c.fact 43 (f := .free "int") rfl)) (He.free_ok X G (c.fact 33 (f := .free "abs") rfl)) fun X dx => start_pss dx
end
theorem c_law : (fnScB (["script", "state", "turn"] : List Str) (["script"] : List Str) (defScope (top 42)) && mSs tb (["script", "state", "turn"] : List Str) (defScope (top 42)) lawBody (defBody (top 42)).tail) = true := by decide +kernel
theorem holds_of (plain : ((ex (callF tab 12) lawBody rho0).bind outV).wp 1000000 fun d _ => d = .bool true) : PySem.Challenge.rw_raingauged_k63_whole_records_and_odds_of.Holds := by
  open PySem PySem.W PySem.Calls PyProof.Rows in w_on
  open PySem PySem.W PySem.Calls PyProof.Rows in o_law
  refine HandSHeadRun.head_any (r := PySem.W.OpenLaw.row PySem.Challenge.rw_raingauged_k63_whole_records_and_odds_of) (q := PySem.W.view R.prog [42]) (H := hk) (ob := ob) (M := 2000) (loose := loose) (d := HandSHeadRun.topDef (PySem.W.OpenLaw.row PySem.Challenge.rw_raingauged_k63_whole_records_and_odds_of).prog 42) (kwd := []) ob_eq
    (by kernel_rfl) (fun s => by kernel_rfl) run (by kernel_rfl) (by kernel_rfl) (by kernel_rfl) (by rfl) (by first | assumption | decide +kernel) (by decide +kernel) ⟨rfl, rfl, rfl, rfl, rfl, by decide +kernel⟩ ?hw ?hc
  case hw => open PySem PySem.W PySem.Calls PyProof.Rows in w_witness2
  case hc =>
    refine walk_ofG (l := PySem.Challenge.rw_raingauged_k63_whole_records_and_odds_of) (n := 63) rfl (by decide) (by kernel_rfl) ?_
    intro w mg fa h Y G hmg0
    obtain ⟨K, KX, c⟩ := Y
    have hmg : mg ("law" : Str) = some (.ref fa) := by
      have e : (HandSHeadRun.topDef (PySem.W.OpenLaw.row PySem.Challenge.rw_raingauged_k63_whole_records_and_odds_of).prog 42).name = ("law" : Str) := by kernel_rfl
      rw [← e]
      exact hmg0
    obtain ⟨fd, D⟩ := c.def_ 31 (d := dOf (top 42) "law") rfl
    obtain ⟨fdS, DS⟩ := c.def_ 23 (d := dOf (top 34) "_law_start") rfl
    have e := hmg.symm.trans (He.glo_ok KX G (c.fact 31 (f := .glo "law") rfl))
    cases e
    refine ⟨K, KX, fun base hM s H us ws Q E e0 r hsp hl => ?_⟩
    have hc := c_law
    rw [Bool.and_eq_true] at hc
    have hu : ∃ u, us = [u] := by
      match us, hl with
      | [u], _ => exact ⟨u, rfl⟩
    obtain ⟨u, rfl⟩ := hu
    exact law_run (k := 12) (m := 0) (around (base := base) KX G c 12) D hc.1 rfl hc.2 rfl rfl rfl (He.glo_ok KX G (c.fact 23 (f := .glo "_law_start") rfl)) DS.kp (DS.bindsN fun _ _ _ _ _ _ us hl => match us, hl with | [_], _ => rfl) (start_fn KX G c DS) (by decide) plain
      callerA [] s H ⟨[u], []⟩ [u] ws Q E ⟨rfl, by decide, by decide⟩ rfl e0 (FunD.bindsA (ps := (["script"] : List Str)) D (fun _ _ _ _ _ _ us hl => match us, hl with | [_], _ => rfl) s [u] rfl) r hsp

end K63
end

section
set_option Elab.async false
set_option linter.all false
set_option maxRecDepth 100000
set_option maxHeartbeats 4000000
namespace K63
open PySem RG
theorem u_is_integer (n : Nat) (xs : List Sl) : callF tab (n + 1) "is_integer" xs = runF (callF tab n) F_is_integer xs := rfl
theorem u_is_between (n : Nat) (xs : List Sl) : callF tab (n + 1) "is_between" xs = runF (callF tab n) F_is_between xs := rfl
theorem u_check_years (n : Nat) (xs : List Sl) : callF tab (n + 1) "check_years" xs = runF (callF tab n) F_check_years xs := rfl
theorem u_check_level (n : Nat) (xs : List Sl) : callF tab (n + 1) "check_level" xs = runF (callF tab n) F_check_level xs := rfl
theorem u_quotient (n : Nat) (xs : List Sl) : callF tab (n + 1) "quotient" xs = runF (callF tab n) F_quotient xs := rfl
theorem u_ranks_of (n : Nat) (xs : List Sl) : callF tab (n + 1) "ranks_of" xs = runF (callF tab n) F_ranks_of xs := rfl
theorem u_returns_of (n : Nat) (xs : List Sl) : callF tab (n + 1) "returns_of" xs = runF (callF tab n) F_returns_of xs := rfl
theorem u_median_of (n : Nat) (xs : List Sl) : callF tab (n + 1) "median_of" xs = runF (callF tab n) F_median_of xs := rfl
theorem u_count_from (n : Nat) (xs : List Sl) : callF tab (n + 1) "count_from" xs = runF (callF tab n) F_count_from xs := rfl
theorem u_level_for (n : Nat) (xs : List Sl) : callF tab (n + 1) "level_for" xs = runF (callF tab n) F_level_for xs := rfl
theorem u_record_years (n : Nat) (xs : List Sl) : callF tab (n + 1) "record_years" xs = runF (callF tab n) F_record_years xs := rfl
theorem u_mean_records (n : Nat) (xs : List Sl) : callF tab (n + 1) "mean_records" xs = runF (callF tab n) F_mean_records xs := rfl
theorem u_record_ways (n : Nat) (xs : List Sl) : callF tab (n + 1) "record_ways" xs = runF (callF tab n) F_record_ways xs := rfl
theorem u_check_odds (n : Nat) (xs : List Sl) : callF tab (n + 1) "check_odds" xs = runF (callF tab n) F_check_odds xs := rfl
theorem u_check_counts (n : Nat) (xs : List Sl) : callF tab (n + 1) "check_counts" xs = runF (callF tab n) F_check_counts xs := rfl
theorem u_power (n : Nat) (xs : List Sl) : callF tab (n + 1) "power" xs = runF (callF tab n) F_power xs := rfl
theorem u_rows_from (n : Nat) (xs : List Sl) : callF tab (n + 1) "rows_from" xs = runF (callF tab n) F_rows_from xs := rfl
theorem u_odds_from (n : Nat) (xs : List Sl) : callF tab (n + 1) "odds_from" xs = runF (callF tab n) F_odds_from xs := rfl
theorem u_check_limit (n : Nat) (xs : List Sl) : callF tab (n + 1) "check_limit" xs = runF (callF tab n) F_check_limit xs := rfl
theorem u_judge_claim (n : Nat) (xs : List Sl) : callF tab (n + 1) "judge_claim" xs = runF (callF tab n) F_judge_claim xs := rfl
theorem u_fewest_years (n : Nat) (xs : List Sl) : callF tab (n + 1) "fewest_years" xs = runF (callF tab n) F_fewest_years xs := rfl
theorem u_one_more (n : Nat) (xs : List Sl) : callF tab (n + 1) "one_more" xs = runF (callF tab n) F_one_more xs := rfl
theorem u_accept_level (n : Nat) (xs : List Sl) : callF tab (n + 1) "accept_level" xs = runF (callF tab n) F_accept_level xs := rfl
theorem u_law_same (n : Nat) (xs : List Sl) : callF tab (n + 1) "_law_same" xs = runF (callF tab n) F_law_same xs := rfl
theorem u_law_divisor (n : Nat) (xs : List Sl) : callF tab (n + 1) "_law_divisor" xs = runF (callF tab n) F_law_divisor xs := rfl
theorem u_law_quotient (n : Nat) (xs : List Sl) : callF tab (n + 1) "_law_quotient" xs = runF (callF tab n) F_law_quotient xs := rfl
theorem u_law_years_hold (n : Nat) (xs : List Sl) : callF tab (n + 1) "_law_years_hold" xs = runF (callF tab n) F_law_years_hold xs := rfl
theorem u_law_records_hold (n : Nat) (xs : List Sl) : callF tab (n + 1) "_law_records_hold" xs = runF (callF tab n) F_law_records_hold xs := rfl
theorem u_law_odds_hold (n : Nat) (xs : List Sl) : callF tab (n + 1) "_law_odds_hold" xs = runF (callF tab n) F_law_odds_hold xs := rfl
theorem u_draw (n : Nat) (xs : List Sl) : callF tab (n + 1) "_law_draw" xs = drawF xs := rfl
theorem rd_C_check_years_0 (r : T PyData) (ρ : Rho) : rdOf C_check_years_0 r ρ = r := rfl
theorem sl_C_check_years_0 (r : T PyData) (ρ : Rho) : slOf C_check_years_0 r ρ = r.bind fun d => .ret (.va d) := rfl
theorem rd_C_ranks_of_0 (r : T PyData) (ρ : Rho) : rdOf C_ranks_of_0 r ρ = r := rfl
theorem sl_C_ranks_of_0 (r : T PyData) (ρ : Rho) : slOf C_ranks_of_0 r ρ = r.bind fun d => .ret (.va d) := rfl
theorem rd_C_returns_of_0 (r : T PyData) (ρ : Rho) : rdOf C_returns_of_0 r ρ = r := rfl
theorem sl_C_returns_of_0 (r : T PyData) (ρ : Rho) : slOf C_returns_of_0 r ρ = r.bind fun d => .ret (.va d) := rfl
theorem rd_C_count_from_0 (r : T PyData) (ρ : Rho) : rdOf C_count_from_0 r ρ = r := rfl
theorem sl_C_count_from_0 (r : T PyData) (ρ : Rho) : slOf C_count_from_0 r ρ = r.bind fun d => .ret (.va d) := rfl
theorem rd_C_record_ways_0 (r : T PyData) (ρ : Rho) : rdOf C_record_ways_0 r ρ = r := rfl
theorem sl_C_record_ways_0 (r : T PyData) (ρ : Rho) : slOf C_record_ways_0 r ρ = r.bind fun d => .ret (.va d) := rfl
theorem rd_C_judge_claim_0 (r : T PyData) (ρ : Rho) : rdOf C_judge_claim_0 r ρ = r := rfl
theorem sl_C_judge_claim_0 (r : T PyData) (ρ : Rho) : slOf C_judge_claim_0 r ρ = r.bind fun d => .ret (.va d) := rfl
theorem rd_C_one_more_0 (r : T PyData) (ρ : Rho) : rdOf C_one_more_0 r ρ = r := rfl
theorem sl_C_one_more_0 (r : T PyData) (ρ : Rho) : slOf C_one_more_0 r ρ = r.bind fun d => .ret (.va d) := rfl
theorem rd_C_accept_level_0 (r : T PyData) (ρ : Rho) : rdOf C_accept_level_0 r ρ = r := rfl
theorem sl_C_accept_level_0 (r : T PyData) (ρ : Rho) : slOf C_accept_level_0 r ρ = r.bind fun d => .ret (.va d) := rfl
theorem rd_C_accept_level_1 (r : T PyData) (ρ : Rho) : rdOf C_accept_level_1 r ρ = r := rfl
theorem sl_C_accept_level_1 (r : T PyData) (ρ : Rho) : slOf C_accept_level_1 r ρ = r.bind fun d => .ret (.va d) := rfl
theorem rd_C_accept_level_2 (r : T PyData) (ρ : Rho) : rdOf C_accept_level_2 r ρ = r := rfl
theorem sl_C_accept_level_2 (r : T PyData) (ρ : Rho) : slOf C_accept_level_2 r ρ = r.bind fun d => .ret (.va d) := rfl
theorem rd_C_law_years_hold_0 (r : T PyData) (ρ : Rho) : rdOf C_law_years_hold_0 r ρ = r := rfl
theorem sl_C_law_years_hold_0 (r : T PyData) (ρ : Rho) : slOf C_law_years_hold_0 r ρ = r.bind fun d => .ret (.va d) := rfl
theorem rd_C_law_years_hold_1 (r : T PyData) (ρ : Rho) : rdOf C_law_years_hold_1 r ρ = r := rfl
theorem sl_C_law_years_hold_1 (r : T PyData) (ρ : Rho) : slOf C_law_years_hold_1 r ρ = r.bind fun d => .ret (.va d) := rfl
theorem rd_C_law_years_hold_2 (r : T PyData) (ρ : Rho) : rdOf C_law_years_hold_2 r ρ = r := rfl
theorem sl_C_law_years_hold_2 (r : T PyData) (ρ : Rho) : slOf C_law_years_hold_2 r ρ = r.bind fun d => .ret (.va d) := rfl
theorem rd_C_law_years_hold_3 (r : T PyData) (ρ : Rho) : rdOf C_law_years_hold_3 r ρ = r := rfl
theorem sl_C_law_years_hold_3 (r : T PyData) (ρ : Rho) : slOf C_law_years_hold_3 r ρ = r.bind fun d => .ret (.va d) := rfl
theorem rd_C_law_years_hold_4 (r : T PyData) (ρ : Rho) : rdOf C_law_years_hold_4 r ρ = r := rfl
theorem sl_C_law_years_hold_4 (r : T PyData) (ρ : Rho) : slOf C_law_years_hold_4 r ρ = r.bind fun d => .ret (.va d) := rfl
theorem rd_C_law_years_hold_5 (r : T PyData) (ρ : Rho) : rdOf C_law_years_hold_5 r ρ = r := rfl
theorem sl_C_law_years_hold_5 (r : T PyData) (ρ : Rho) : slOf C_law_years_hold_5 r ρ = r.bind fun d => .ret (.va d) := rfl
theorem rd_C_law_years_hold_6 (r : T PyData) (ρ : Rho) : rdOf C_law_years_hold_6 r ρ = r := rfl
theorem sl_C_law_years_hold_6 (r : T PyData) (ρ : Rho) : slOf C_law_years_hold_6 r ρ = r.bind fun d => .ret (.va d) := rfl
theorem rd_C_law_years_hold_7 (r : T PyData) (ρ : Rho) : rdOf C_law_years_hold_7 r ρ = r := rfl
theorem sl_C_law_years_hold_7 (r : T PyData) (ρ : Rho) : slOf C_law_years_hold_7 r ρ = r.bind fun d => .ret (.va d) := rfl
theorem rd_C_law_years_hold_8 (r : T PyData) (ρ : Rho) : rdOf C_law_years_hold_8 r ρ = r := rfl
theorem sl_C_law_years_hold_8 (r : T PyData) (ρ : Rho) : slOf C_law_years_hold_8 r ρ = r.bind fun d => .ret (.va d) := rfl
theorem rd_C_law_years_hold_9 (r : T PyData) (ρ : Rho) : rdOf C_law_years_hold_9 r ρ = r := rfl
theorem sl_C_law_years_hold_9 (r : T PyData) (ρ : Rho) : slOf C_law_years_hold_9 r ρ = r.bind fun d => .ret (.va d) := rfl
theorem rd_C_law_years_hold_10 (r : T PyData) (ρ : Rho) : rdOf C_law_years_hold_10 r ρ = r := rfl
theorem sl_C_law_years_hold_10 (r : T PyData) (ρ : Rho) : slOf C_law_years_hold_10 r ρ = r.bind fun d => .ret (.va d) := rfl
theorem rd_C_law_years_hold_11 (r : T PyData) (ρ : Rho) : rdOf C_law_years_hold_11 r ρ = r := rfl
theorem sl_C_law_years_hold_11 (r : T PyData) (ρ : Rho) : slOf C_law_years_hold_11 r ρ = r.bind fun d => .ret (.va d) := rfl
theorem rd_C_law_years_hold_12 (r : T PyData) (ρ : Rho) : rdOf C_law_years_hold_12 r ρ = r := rfl
theorem sl_C_law_years_hold_12 (r : T PyData) (ρ : Rho) : slOf C_law_years_hold_12 r ρ = r.bind fun d => .ret (.va d) := rfl
theorem rd_C_law_records_hold_0 (r : T PyData) (ρ : Rho) : rdOf C_law_records_hold_0 r ρ = r := rfl
theorem sl_C_law_records_hold_0 (r : T PyData) (ρ : Rho) : slOf C_law_records_hold_0 r ρ = r.bind fun d => .ret (.va d) := rfl
theorem rd_C_law_records_hold_1 (r : T PyData) (ρ : Rho) : rdOf C_law_records_hold_1 r ρ = r := rfl
theorem sl_C_law_records_hold_1 (r : T PyData) (ρ : Rho) : slOf C_law_records_hold_1 r ρ = r.bind fun d => .ret (.va d) := rfl
theorem rd_C_law_records_hold_2 (r : T PyData) (ρ : Rho) : rdOf C_law_records_hold_2 r ρ = r := rfl
theorem sl_C_law_records_hold_2 (r : T PyData) (ρ : Rho) : slOf C_law_records_hold_2 r ρ = r.bind fun d => .ret (.va d) := rfl
theorem rd_C_law_odds_hold_0 (r : T PyData) (ρ : Rho) : rdOf C_law_odds_hold_0 r ρ = r := rfl
theorem sl_C_law_odds_hold_0 (r : T PyData) (ρ : Rho) : slOf C_law_odds_hold_0 r ρ = r.bind fun d => .ret (.va d) := rfl
theorem rd_C_law_odds_hold_1 (r : T PyData) (ρ : Rho) : rdOf C_law_odds_hold_1 r ρ = r := rfl
theorem sl_C_law_odds_hold_1 (r : T PyData) (ρ : Rho) : slOf C_law_odds_hold_1 r ρ = r.bind fun d => .ret (.va d) := rfl
theorem rd_C_law_odds_hold_2 (r : T PyData) (ρ : Rho) : rdOf C_law_odds_hold_2 r ρ = r := rfl
theorem sl_C_law_odds_hold_2 (r : T PyData) (ρ : Rho) : slOf C_law_odds_hold_2 r ρ = r.bind fun d => .ret (.va d) := rfl
theorem rd_C_law_odds_hold_3 (r : T PyData) (ρ : Rho) : rdOf C_law_odds_hold_3 r ρ = r := rfl
theorem sl_C_law_odds_hold_3 (r : T PyData) (ρ : Rho) : slOf C_law_odds_hold_3 r ρ = r.bind fun d => .ret (.va d) := rfl
theorem rd_C_law_odds_hold_4 (r : T PyData) (ρ : Rho) : rdOf C_law_odds_hold_4 r ρ = r := rfl
theorem sl_C_law_odds_hold_4 (r : T PyData) (ρ : Rho) : slOf C_law_odds_hold_4 r ρ = r.bind fun d => .ret (.va d) := rfl
theorem rd_C_law_odds_hold_5 (r : T PyData) (ρ : Rho) : rdOf C_law_odds_hold_5 r ρ = r := rfl
theorem sl_C_law_odds_hold_5 (r : T PyData) (ρ : Rho) : slOf C_law_odds_hold_5 r ρ = r.bind fun d => .ret (.va d) := rfl
end K63
end

section
set_option Elab.async false
set_option linter.all false
set_option maxRecDepth 100000
set_option maxHeartbeats 4000000
namespace K63
open PySem RG
theorem s_is_integer (n : Nat) (i : Int) : callF tab (n + 1) "is_integer" [.va (.int i)] = .ret (.bool true) := by
  rw [u_is_integer]
  rfl
theorem s_is_between (n : Nat) (v lo hi : Int) : callF tab (n + 2) "is_between" [.va (.int v), .va (.int lo), .va (.int hi)] = .ret (.bool (decide (lo ≤ v) && decide (v ≤ hi))) := by
  rw [u_is_between, go_def rfl]
  unfold F_is_between F_is_between_b
  refine go_ret ?_
  simp [runF, ex, ev, evT, evB, evV, evA, evC, evO, evI, getS, retV, rd_v, sl_v, rd_non, sl_non, rd_int, sl_int, rd_bl, sl_bl, rd_str, sl_str, rd_glob, sl_glob, rd_neg, sl_neg, rd_vnot, sl_vnot, rd_bin, sl_bin, rd_cmp, sl_cmp, rd_isN, sl_isN, rd_notN, sl_notN, rd_chn, sl_chn, rd_vbo, sl_vbo, rd_ife, sl_ife, rd_tup, sl_tup, rd_lst, sl_lst, rd_sub, sl_sub, rd_sli, sl_sli, rd_rev, sl_rev, rd_isi, sl_isi, rd_fn, sl_fn, rd_met, sl_met, rd_call, sl_call, rd_comp, sl_comp, RG.start, T.chk, T.bind, outV, getR, getV, cmpOp, binOp, isiOp, f_len, f_abs, f_sum, f_all, f_tuple, f_sorted, f_repr, m_count, fnLen, fnAbs, fnTuple, asgT, asgT.asgL, wipeR, itOp, truth, plOf, small, RG.setP, frs, isFr, ownOf, getO, subOp, plainI, notOw, notOwA, augOp, enumOp, zipOp, intOf, sliOp, revOp, s_is_integer]
  by_cases h : lo ≤ v <;> simp [h, T.bind]
def OKY (ys : List Int) : Prop := 1 ≤ ys.length ∧ ys.length ≤ 200 ∧ ∀ y ∈ ys, 0 ≤ y ∧ y ≤ 1000000000000
abbrev yrs (ys : List Int) : PyData := .tuple (iL ys)
theorem s_check_years (n : Nat) {ys : List Int} (h : OKY ys) : callF tab (n + 3) "check_years" [.va (yrs ys)] = .ret .none := by
  obtain ⟨h1, h2, h3⟩ := h
  have h1' : (1 : Int) ≤ (ys.length : Int) := by omega
  have h2' : (ys.length : Int) ≤ 200 := by omega
  rw [u_check_years, go_def rfl]
  unfold F_check_years F_check_years_b
  refine (go_no ?_).trans ?_
  · simp [runF, ex, ev, evT, evB, evV, evA, evC, evO, evI, getS, retV, rd_v, sl_v, rd_non, sl_non, rd_int, sl_int, rd_bl, sl_bl, rd_str, sl_str, rd_glob, sl_glob, rd_neg, sl_neg, rd_vnot, sl_vnot, rd_bin, sl_bin, rd_cmp, sl_cmp, rd_isN, sl_isN, rd_notN, sl_notN, rd_chn, sl_chn, rd_vbo, sl_vbo, rd_ife, sl_ife, rd_tup, sl_tup, rd_lst, sl_lst, rd_sub, sl_sub, rd_sli, sl_sli, rd_rev, sl_rev, rd_isi, sl_isi, rd_fn, sl_fn, rd_met, sl_met, rd_call, sl_call, rd_comp, sl_comp, RG.start, T.chk, T.bind, outV, getR, getV, cmpOp, binOp, isiOp, f_len, f_abs, f_sum, f_all, f_tuple, f_sorted, f_repr, m_count, fnLen, fnAbs, fnTuple, asgT, asgT.asgL, wipeR, itOp, truth, plOf, small, RG.setP, frs, isFr, ownOf, getO, subOp, plainI, notOw, notOwA, augOp, enumOp, zipOp, intOf, sliOp, revOp, h1', h2']
  have c0 : ev (callF tab (n + 2)) C_check_years_0 [Sl.va (yrs ys), .no] = .ret (.list (ys.map fun y => PyData.bool (decide (0 ≤ y) && decide (y ≤ 1000000000000)))) :=
    e_comp (ds := iL ys) (by simp [runF, ex, ev, evT, evB, evV, evA, evC, evO, evI, getS, retV, rd_v, sl_v, rd_non, sl_non, rd_int, sl_int, rd_bl, sl_bl, rd_str, sl_str, rd_glob, sl_glob, rd_neg, sl_neg, rd_vnot, sl_vnot, rd_bin, sl_bin, rd_cmp, sl_cmp, rd_isN, sl_isN, rd_notN, sl_notN, rd_chn, sl_chn, rd_vbo, sl_vbo, rd_ife, sl_ife, rd_tup, sl_tup, rd_lst, sl_lst, rd_sub, sl_sub, rd_sli, sl_sli, rd_rev, sl_rev, rd_isi, sl_isi, rd_fn, sl_fn, rd_met, sl_met, rd_call, sl_call, rd_comp, sl_comp, RG.start, T.chk, T.bind, outV, getR, getV, cmpOp, binOp, isiOp, f_len, f_abs, f_sum, f_all, f_tuple, f_sorted, f_repr, m_count, fnLen, fnAbs, fnTuple, asgT, asgT.asgL, wipeR, itOp, truth, plOf, small, RG.setP, frs, isFr, ownOf, getO, subOp, plainI, notOw, notOwA, augOp, enumOp, zipOp, intOf, sliOp, revOp]) (lcG_over fun y _ => by simp [runF, ex, ev, evT, evB, evV, evA, evC, evO, evI, getS, retV, rd_v, sl_v, rd_non, sl_non, rd_int, sl_int, rd_bl, sl_bl, rd_str, sl_str, rd_glob, sl_glob, rd_neg, sl_neg, rd_vnot, sl_vnot, rd_bin, sl_bin, rd_cmp, sl_cmp, rd_isN, sl_isN, rd_notN, sl_notN, rd_chn, sl_chn, rd_vbo, sl_vbo, rd_ife, sl_ife, rd_tup, sl_tup, rd_lst, sl_lst, rd_sub, sl_sub, rd_sli, sl_sli, rd_rev, sl_rev, rd_isi, sl_isi, rd_fn, sl_fn, rd_met, sl_met, rd_call, sl_call, rd_comp, sl_comp, RG.start, T.chk, T.bind, outV, getR, getV, cmpOp, binOp, isiOp, f_len, f_abs, f_sum, f_all, f_tuple, f_sorted, f_repr, m_count, fnLen, fnAbs, fnTuple, asgT, asgT.asgL, wipeR, itOp, truth, plOf, small, RG.setP, frs, isFr, ownOf, getO, subOp, plainI, notOw, notOwA, augOp, enumOp, zipOp, intOf, sliOp, revOp, lcF, s_is_between])
  have c1 := fnAll_map (ys.map fun y => (decide (0 ≤ y) && decide (y ≤ 1000000000000)))
  have c2 : (ys.map fun y => (decide (0 ≤ y) && decide (y ≤ 1000000000000))).all id = true := by
    rw [List.all_eq_true]
    intro b hb
    obtain ⟨y, hy, rfl⟩ := List.mem_map.mp hb
    simp [h3 y hy]
  rw [List.map_map, c2] at c1
  refine (go_no ?_).trans go_end
  have c1' : fnAll [.list (ys.map fun y => PyData.bool (decide (0 ≤ y) && decide (y ≤ 1000000000000)))] = .ret (.bool true) := c1
  simp [runF, ex, ev, evT, evB, evV, evA, evC, evO, evI, getS, retV, rd_v, sl_v, rd_non, sl_non, rd_int, sl_int, rd_bl, sl_bl, rd_str, sl_str, rd_glob, sl_glob, rd_neg, sl_neg, rd_vnot, sl_vnot, rd_bin, sl_bin, rd_cmp, sl_cmp, rd_isN, sl_isN, rd_notN, sl_notN, rd_chn, sl_chn, rd_vbo, sl_vbo, rd_ife, sl_ife, rd_tup, sl_tup, rd_lst, sl_lst, rd_sub, sl_sub, rd_sli, sl_sli, rd_rev, sl_rev, rd_isi, sl_isi, rd_fn, sl_fn, rd_met, sl_met, rd_call, sl_call, rd_comp, sl_comp, RG.start, T.chk, T.bind, outV, getR, getV, cmpOp, binOp, isiOp, f_len, f_abs, f_sum, f_all, f_tuple, f_sorted, f_repr, m_count, fnLen, fnAbs, fnTuple, asgT, asgT.asgL, wipeR, itOp, truth, plOf, small, RG.setP, frs, isFr, ownOf, getO, subOp, plainI, notOw, notOwA, augOp, enumOp, zipOp, intOf, sliOp, revOp, c0, rd_C_check_years_0, c1']
theorem s_check_level (n : Nat) {l : Int} (h : 0 ≤ l ∧ l ≤ 1000000000000) : callF tab (n + 3) "check_level" [.va (.int l)] = .ret .none := by
  rw [u_check_level, go_def rfl]
  unfold F_check_level F_check_level_b
  refine (go_no ?_).trans go_end
  simp [runF, ex, ev, evT, evB, evV, evA, evC, evO, evI, getS, retV, rd_v, sl_v, rd_non, sl_non, rd_int, sl_int, rd_bl, sl_bl, rd_str, sl_str, rd_glob, sl_glob, rd_neg, sl_neg, rd_vnot, sl_vnot, rd_bin, sl_bin, rd_cmp, sl_cmp, rd_isN, sl_isN, rd_notN, sl_notN, rd_chn, sl_chn, rd_vbo, sl_vbo, rd_ife, sl_ife, rd_tup, sl_tup, rd_lst, sl_lst, rd_sub, sl_sub, rd_sli, sl_sli, rd_rev, sl_rev, rd_isi, sl_isi, rd_fn, sl_fn, rd_met, sl_met, rd_call, sl_call, rd_comp, sl_comp, RG.start, T.chk, T.bind, outV, getR, getV, cmpOp, binOp, isiOp, f_len, f_abs, f_sum, f_all, f_tuple, f_sorted, f_repr, m_count, fnLen, fnAbs, fnTuple, asgT, asgT.asgL, wipeR, itOp, truth, plOf, small, RG.setP, frs, isFr, ownOf, getO, subOp, plainI, notOw, notOwA, augOp, enumOp, zipOp, intOf, sliOp, revOp, s_is_between, h.1, h.2]
end K63
end

section
set_option Elab.async false
set_option linter.all false
set_option maxRecDepth 100000
set_option maxHeartbeats 4000000
namespace K63
open PySem RG
/-- both over their greatest common divisor -/
def qt (u d : Nat) : PyData := .tuple [.int ((u / Nat.gcd u d : Nat) : Int), .int ((d / Nat.gcd u d : Nat) : Int)]
theorem s_quotient (n : Nat) {u d : Nat} (hu : u < 2 ^ 9000) (hd : d < 2 ^ 9000) (h : 0 < u ∨ 0 < d) : callF tab (n + 1) "quotient" [.va (.int (u : Int)), .va (.int (d : Int))] = .ret (qt u d) := by
  rw [u_quotient, go_def rfl]
  unfold F_quotient F_quotient_b
  refine (go_asgP (xs := [.va (.int (u : Int)), .va (.int (d : Int))]) (ρ' := [.va (.int (u : Int)), .va (.int (d : Int)), .va (.int (u : Int)), .va (.int (d : Int))]) (by simp [runF, ex, ev, evT, evB, evV, evA, evC, evO, evI, getS, retV, rd_v, sl_v, rd_non, sl_non, rd_int, sl_int, rd_bl, sl_bl, rd_str, sl_str, rd_glob, sl_glob, rd_neg, sl_neg, rd_vnot, sl_vnot, rd_bin, sl_bin, rd_cmp, sl_cmp, rd_isN, sl_isN, rd_notN, sl_notN, rd_chn, sl_chn, rd_vbo, sl_vbo, rd_ife, sl_ife, rd_tup, sl_tup, rd_lst, sl_lst, rd_sub, sl_sub, rd_sli, sl_sli, rd_rev, sl_rev, rd_isi, sl_isi, rd_fn, sl_fn, rd_met, sl_met, rd_call, sl_call, rd_comp, sl_comp, RG.start, T.chk, T.bind, outV, getR, getV, cmpOp, binOp, isiOp, f_len, f_abs, f_sum, f_all, f_tuple, f_sorted, f_repr, m_count, fnLen, fnAbs, fnTuple, asgT, asgT.asgL, wipeR, itOp, truth, plOf, small, RG.setP, frs, isFr, ownOf, getO, subOp, plainI, notOw, notOwA, augOp, enumOp, zipOp, intOf, sliOp, revOp]) (by simp [runF, ex, ev, evT, evB, evV, evA, evC, evO, evI, getS, retV, rd_v, sl_v, rd_non, sl_non, rd_int, sl_int, rd_bl, sl_bl, rd_str, sl_str, rd_glob, sl_glob, rd_neg, sl_neg, rd_vnot, sl_vnot, rd_bin, sl_bin, rd_cmp, sl_cmp, rd_isN, sl_isN, rd_notN, sl_notN, rd_chn, sl_chn, rd_vbo, sl_vbo, rd_ife, sl_ife, rd_tup, sl_tup, rd_lst, sl_lst, rd_sub, sl_sub, rd_sli, sl_sli, rd_rev, sl_rev, rd_isi, sl_isi, rd_fn, sl_fn, rd_met, sl_met, rd_call, sl_call, rd_comp, sl_comp, RG.start, T.chk, T.bind, outV, getR, getV, cmpOp, binOp, isiOp, f_len, f_abs, f_sum, f_all, f_tuple, f_sorted, f_repr, m_count, fnLen, fnAbs, fnTuple, asgT, asgT.asgL, wipeR, itOp, truth, plOf, small, RG.setP, frs, isFr, ownOf, getO, subOp, plainI, notOw, notOwA, augOp, enumOp, zipOp, intOf, sliOp, revOp])).trans ?_
  have e := whG_gcd (c := evT (callF tab n) (.tval (.v 3))) (f := ex (callF tab n) L_quotient_0) (R := fun a b => [.va (.int (u : Int)), .va (.int (d : Int)), .va (.int (a : Int)), .va (.int (b : Int))]) (fun a => by simp [runF, ex, ev, evT, evB, evV, evA, evC, evO, evI, getS, retV, rd_v, sl_v, rd_non, sl_non, rd_int, sl_int, rd_bl, sl_bl, rd_str, sl_str, rd_glob, sl_glob, rd_neg, sl_neg, rd_vnot, sl_vnot, rd_bin, sl_bin, rd_cmp, sl_cmp, rd_isN, sl_isN, rd_notN, sl_notN, rd_chn, sl_chn, rd_vbo, sl_vbo, rd_ife, sl_ife, rd_tup, sl_tup, rd_lst, sl_lst, rd_sub, sl_sub, rd_sli, sl_sli, rd_rev, sl_rev, rd_isi, sl_isi, rd_fn, sl_fn, rd_met, sl_met, rd_call, sl_call, rd_comp, sl_comp, RG.start, T.chk, T.bind, outV, getR, getV, cmpOp, binOp, isiOp, f_len, f_abs, f_sum, f_all, f_tuple, f_sorted, f_repr, m_count, fnLen, fnAbs, fnTuple, asgT, asgT.asgL, wipeR, itOp, truth, plOf, small, RG.setP, frs, isFr, ownOf, getO, subOp, plainI, notOw, notOwA, augOp, enumOp, zipOp, intOf, sliOp, revOp]) (fun a b hb ha hb2 => by
    have h1 := divOk_nat hb ha hb2
    have h2 : mulOk ((a / b : Nat) : Int) (b : Int) = true := mulOk_big (by rw [Int.natAbs_natCast]; exact Nat.lt_of_le_of_lt (Nat.div_le_self a b) ha) (by rw [Int.natAbs_natCast]; exact hb2)
    have h3 := fdiv_nat a b
    have h4 := mod_nat a b
    refine ⟨?_, ?_⟩
    · simp [runF, ex, ev, evT, evB, evV, evA, evC, evO, evI, getS, retV, rd_v, sl_v, rd_non, sl_non, rd_int, sl_int, rd_bl, sl_bl, rd_str, sl_str, rd_glob, sl_glob, rd_neg, sl_neg, rd_vnot, sl_vnot, rd_bin, sl_bin, rd_cmp, sl_cmp, rd_isN, sl_isN, rd_notN, sl_notN, rd_chn, sl_chn, rd_vbo, sl_vbo, rd_ife, sl_ife, rd_tup, sl_tup, rd_lst, sl_lst, rd_sub, sl_sub, rd_sli, sl_sli, rd_rev, sl_rev, rd_isi, sl_isi, rd_fn, sl_fn, rd_met, sl_met, rd_call, sl_call, rd_comp, sl_comp, RG.start, T.chk, T.bind, outV, getR, getV, cmpOp, binOp, isiOp, f_len, f_abs, f_sum, f_all, f_tuple, f_sorted, f_repr, m_count, fnLen, fnAbs, fnTuple, asgT, asgT.asgL, wipeR, itOp, truth, plOf, small, RG.setP, frs, isFr, ownOf, getO, subOp, plainI, notOw, notOwA, augOp, enumOp, zipOp, intOf, sliOp, revOp, show b ≠ 0 by omega]
    · generalize a / b = q at *
      generalize a % b = m at *
      simp [runF, ex, ev, evT, evB, evV, evA, evC, evO, evI, getS, retV, rd_v, sl_v, rd_non, sl_non, rd_int, sl_int, rd_bl, sl_bl, rd_str, sl_str, rd_glob, sl_glob, rd_neg, sl_neg, rd_vnot, sl_vnot, rd_bin, sl_bin, rd_cmp, sl_cmp, rd_isN, sl_isN, rd_notN, sl_notN, rd_chn, sl_chn, rd_vbo, sl_vbo, rd_ife, sl_ife, rd_tup, sl_tup, rd_lst, sl_lst, rd_sub, sl_sub, rd_sli, sl_sli, rd_rev, sl_rev, rd_isi, sl_isi, rd_fn, sl_fn, rd_met, sl_met, rd_call, sl_call, rd_comp, sl_comp, RG.start, T.chk, T.bind, outV, getR, getV, cmpOp, binOp, isiOp, f_len, f_abs, f_sum, f_all, f_tuple, f_sorted, f_repr, m_count, fnLen, fnAbs, fnTuple, asgT, asgT.asgL, wipeR, itOp, truth, plOf, small, RG.setP, frs, isFr, ownOf, getO, subOp, plainI, notOw, notOwA, augOp, enumOp, zipOp, intOf, sliOp, revOp, L_quotient_0, h1, h3, h2, h4]) 9000 whFuel u d hd (by decide) hu hd
  refine (go_whl e).trans ?_
  have hg : 0 < Nat.gcd u d := by
    rcases h with h | h
    · exact Nat.gcd_pos_of_pos_left _ h
    · exact Nat.gcd_pos_of_pos_right _ h
  have hg2 : Nat.gcd u d < 2 ^ 9000 := by
    rcases h with h | h
    · exact Nat.lt_of_le_of_lt (Nat.le_of_dvd h (Nat.gcd_dvd_left u d)) hu
    · exact Nat.lt_of_le_of_lt (Nat.le_of_dvd h (Nat.gcd_dvd_right u d)) hd
  have d1 := divOk_nat hg hu hg2
  have d2 := divOk_nat hg hd hg2
  have f1 := fdiv_nat u (Nat.gcd u d)
  have f2 := fdiv_nat d (Nat.gcd u d)
  refine go_ret ?_
  unfold qt
  generalize u / Nat.gcd u d = q1 at *
  generalize d / Nat.gcd u d = q2 at *
  generalize Nat.gcd u d = g at *
  simp [runF, ex, ev, evT, evB, evV, evA, evC, evO, evI, getS, retV, rd_v, sl_v, rd_non, sl_non, rd_int, sl_int, rd_bl, sl_bl, rd_str, sl_str, rd_glob, sl_glob, rd_neg, sl_neg, rd_vnot, sl_vnot, rd_bin, sl_bin, rd_cmp, sl_cmp, rd_isN, sl_isN, rd_notN, sl_notN, rd_chn, sl_chn, rd_vbo, sl_vbo, rd_ife, sl_ife, rd_tup, sl_tup, rd_lst, sl_lst, rd_sub, sl_sub, rd_sli, sl_sli, rd_rev, sl_rev, rd_isi, sl_isi, rd_fn, sl_fn, rd_met, sl_met, rd_call, sl_call, rd_comp, sl_comp, RG.start, T.chk, T.bind, outV, getR, getV, cmpOp, binOp, isiOp, f_len, f_abs, f_sum, f_all, f_tuple, f_sorted, f_repr, m_count, fnLen, fnAbs, fnTuple, asgT, asgT.asgL, wipeR, itOp, truth, plOf, small, RG.setP, frs, isFr, ownOf, getO, subOp, plainI, notOw, notOwA, augOp, enumOp, zipOp, intOf, sliOp, revOp, d1, d2, f1, f2]
end K63
end

section
set_option Elab.async false
set_option linter.all false
set_option maxRecDepth 100000
set_option maxHeartbeats 4000000
namespace K63
open PySem RG
theorem s_law_divisor (n : Nat) {u d : Nat} (hu : u < 2 ^ 9000) (hd : d < 2 ^ 9000) : callF tab (n + 1) "_law_divisor" [.va (.int (u : Int)), .va (.int (d : Int))] = .ret (.int (Nat.gcd u d : Nat)) := by
  rw [u_law_divisor, go_def rfl]
  unfold F_law_divisor F_law_divisor_b
  have e := whG_gcd (c := evT (callF tab n) (.tval (.v 1))) (f := ex (callF tab n) L_law_divisor_0) (R := fun a b => [.va (.int (a : Int)), .va (.int (b : Int))]) (fun a => by simp [runF, ex, ev, evT, evB, evV, evA, evC, evO, evI, getS, retV, rd_v, sl_v, rd_non, sl_non, rd_int, sl_int, rd_bl, sl_bl, rd_str, sl_str, rd_glob, sl_glob, rd_neg, sl_neg, rd_vnot, sl_vnot, rd_bin, sl_bin, rd_cmp, sl_cmp, rd_isN, sl_isN, rd_notN, sl_notN, rd_chn, sl_chn, rd_vbo, sl_vbo, rd_ife, sl_ife, rd_tup, sl_tup, rd_lst, sl_lst, rd_sub, sl_sub, rd_sli, sl_sli, rd_rev, sl_rev, rd_isi, sl_isi, rd_fn, sl_fn, rd_met, sl_met, rd_call, sl_call, rd_comp, sl_comp, RG.start, T.chk, T.bind, outV, getR, getV, cmpOp, binOp, isiOp, f_len, f_abs, f_sum, f_all, f_tuple, f_sorted, f_repr, m_count, fnLen, fnAbs, fnTuple, asgT, asgT.asgL, wipeR, itOp, truth, plOf, small, RG.setP, frs, isFr, ownOf, getO, subOp, plainI, notOw, notOwA, augOp, enumOp, zipOp, intOf, sliOp, revOp]) (fun a b hb ha hb2 => by
    have h1 := divOk_nat hb ha hb2
    have h2 : mulOk ((a / b : Nat) : Int) (b : Int) = true := mulOk_big (by rw [Int.natAbs_natCast]; exact Nat.lt_of_le_of_lt (Nat.div_le_self a b) ha) (by rw [Int.natAbs_natCast]; exact hb2)
    have h3 := fdiv_nat a b
    have h4 := mod_nat a b
    refine ⟨?_, ?_⟩
    · simp [runF, ex, ev, evT, evB, evV, evA, evC, evO, evI, getS, retV, rd_v, sl_v, rd_non, sl_non, rd_int, sl_int, rd_bl, sl_bl, rd_str, sl_str, rd_glob, sl_glob, rd_neg, sl_neg, rd_vnot, sl_vnot, rd_bin, sl_bin, rd_cmp, sl_cmp, rd_isN, sl_isN, rd_notN, sl_notN, rd_chn, sl_chn, rd_vbo, sl_vbo, rd_ife, sl_ife, rd_tup, sl_tup, rd_lst, sl_lst, rd_sub, sl_sub, rd_sli, sl_sli, rd_rev, sl_rev, rd_isi, sl_isi, rd_fn, sl_fn, rd_met, sl_met, rd_call, sl_call, rd_comp, sl_comp, RG.start, T.chk, T.bind, outV, getR, getV, cmpOp, binOp, isiOp, f_len, f_abs, f_sum, f_all, f_tuple, f_sorted, f_repr, m_count, fnLen, fnAbs, fnTuple, asgT, asgT.asgL, wipeR, itOp, truth, plOf, small, RG.setP, frs, isFr, ownOf, getO, subOp, plainI, notOw, notOwA, augOp, enumOp, zipOp, intOf, sliOp, revOp, show b ≠ 0 by omega]
    · generalize a / b = q at *
      generalize a % b = m at *
      simp [runF, ex, ev, evT, evB, evV, evA, evC, evO, evI, getS, retV, rd_v, sl_v, rd_non, sl_non, rd_int, sl_int, rd_bl, sl_bl, rd_str, sl_str, rd_glob, sl_glob, rd_neg, sl_neg, rd_vnot, sl_vnot, rd_bin, sl_bin, rd_cmp, sl_cmp, rd_isN, sl_isN, rd_notN, sl_notN, rd_chn, sl_chn, rd_vbo, sl_vbo, rd_ife, sl_ife, rd_tup, sl_tup, rd_lst, sl_lst, rd_sub, sl_sub, rd_sli, sl_sli, rd_rev, sl_rev, rd_isi, sl_isi, rd_fn, sl_fn, rd_met, sl_met, rd_call, sl_call, rd_comp, sl_comp, RG.start, T.chk, T.bind, outV, getR, getV, cmpOp, binOp, isiOp, f_len, f_abs, f_sum, f_all, f_tuple, f_sorted, f_repr, m_count, fnLen, fnAbs, fnTuple, asgT, asgT.asgL, wipeR, itOp, truth, plOf, small, RG.setP, frs, isFr, ownOf, getO, subOp, plainI, notOw, notOwA, augOp, enumOp, zipOp, intOf, sliOp, revOp, L_law_divisor_0, h1, h3, h2, h4]) 9000 whFuel u d hd (by decide) hu hd
  refine (go_whl e).trans ?_
  refine go_ret ?_
  generalize Nat.gcd u d = g
  simp [runF, ex, ev, evT, evB, evV, evA, evC, evO, evI, getS, retV, rd_v, sl_v, rd_non, sl_non, rd_int, sl_int, rd_bl, sl_bl, rd_str, sl_str, rd_glob, sl_glob, rd_neg, sl_neg, rd_vnot, sl_vnot, rd_bin, sl_bin, rd_cmp, sl_cmp, rd_isN, sl_isN, rd_notN, sl_notN, rd_chn, sl_chn, rd_vbo, sl_vbo, rd_ife, sl_ife, rd_tup, sl_tup, rd_lst, sl_lst, rd_sub, sl_sub, rd_sli, sl_sli, rd_rev, sl_rev, rd_isi, sl_isi, rd_fn, sl_fn, rd_met, sl_met, rd_call, sl_call, rd_comp, sl_comp, RG.start, T.chk, T.bind, outV, getR, getV, cmpOp, binOp, isiOp, f_len, f_abs, f_sum, f_all, f_tuple, f_sorted, f_repr, m_count, fnLen, fnAbs, fnTuple, asgT, asgT.asgL, wipeR, itOp, truth, plOf, small, RG.setP, frs, isFr, ownOf, getO, subOp, plainI, notOw, notOwA, augOp, enumOp, zipOp, intOf, sliOp, revOp, show ¬ ((g : Int) < 0) by omega]
theorem s_law_quotient (n : Nat) {u d : Nat} (hu : u < 2 ^ 9000) (hd : d < 2 ^ 9000) (h : 0 < u ∨ 0 < d) : callF tab (n + 2) "_law_quotient" [.va (.int (u : Int)), .va (.int (d : Int))] = .ret (qt u d) := by
  rw [u_law_quotient, go_def rfl]
  unfold F_law_quotient F_law_quotient_b
  refine (go_asg (d := .int (Nat.gcd u d : Nat)) (by simp [runF, ex, ev, evT, evB, evV, evA, evC, evO, evI, getS, retV, rd_v, sl_v, rd_non, sl_non, rd_int, sl_int, rd_bl, sl_bl, rd_str, sl_str, rd_glob, sl_glob, rd_neg, sl_neg, rd_vnot, sl_vnot, rd_bin, sl_bin, rd_cmp, sl_cmp, rd_isN, sl_isN, rd_notN, sl_notN, rd_chn, sl_chn, rd_vbo, sl_vbo, rd_ife, sl_ife, rd_tup, sl_tup, rd_lst, sl_lst, rd_sub, sl_sub, rd_sli, sl_sli, rd_rev, sl_rev, rd_isi, sl_isi, rd_fn, sl_fn, rd_met, sl_met, rd_call, sl_call, rd_comp, sl_comp, RG.start, T.chk, T.bind, outV, getR, getV, cmpOp, binOp, isiOp, f_len, f_abs, f_sum, f_all, f_tuple, f_sorted, f_repr, m_count, fnLen, fnAbs, fnTuple, asgT, asgT.asgL, wipeR, itOp, truth, plOf, small, RG.setP, frs, isFr, ownOf, getO, subOp, plainI, notOw, notOwA, augOp, enumOp, zipOp, intOf, sliOp, revOp, s_law_divisor n hu hd])).trans ?_
  have hg : 0 < Nat.gcd u d := by
    rcases h with h | h
    · exact Nat.gcd_pos_of_pos_left _ h
    · exact Nat.gcd_pos_of_pos_right _ h
  have hg2 : Nat.gcd u d < 2 ^ 9000 := by
    rcases h with h | h
    · exact Nat.lt_of_le_of_lt (Nat.le_of_dvd h (Nat.gcd_dvd_left u d)) hu
    · exact Nat.lt_of_le_of_lt (Nat.le_of_dvd h (Nat.gcd_dvd_right u d)) hd
  have d1 := divOk_nat hg hu hg2
  have d2 := divOk_nat hg hd hg2
  have f1 := fdiv_nat u (Nat.gcd u d)
  have f2 := fdiv_nat d (Nat.gcd u d)
  refine go_ret ?_
  unfold qt
  generalize u / Nat.gcd u d = q1 at *
  generalize d / Nat.gcd u d = q2 at *
  generalize Nat.gcd u d = g at *
  simp [runF, ex, ev, evT, evB, evV, evA, evC, evO, evI, getS, retV, rd_v, sl_v, rd_non, sl_non, rd_int, sl_int, rd_bl, sl_bl, rd_str, sl_str, rd_glob, sl_glob, rd_neg, sl_neg, rd_vnot, sl_vnot, rd_bin, sl_bin, rd_cmp, sl_cmp, rd_isN, sl_isN, rd_notN, sl_notN, rd_chn, sl_chn, rd_vbo, sl_vbo, rd_ife, sl_ife, rd_tup, sl_tup, rd_lst, sl_lst, rd_sub, sl_sub, rd_sli, sl_sli, rd_rev, sl_rev, rd_isi, sl_isi, rd_fn, sl_fn, rd_met, sl_met, rd_call, sl_call, rd_comp, sl_comp, RG.start, T.chk, T.bind, outV, getR, getV, cmpOp, binOp, isiOp, f_len, f_abs, f_sum, f_all, f_tuple, f_sorted, f_repr, m_count, fnLen, fnAbs, fnTuple, asgT, asgT.asgL, wipeR, itOp, truth, plOf, small, RG.setP, frs, isFr, ownOf, getO, subOp, plainI, notOw, notOwA, augOp, enumOp, zipOp, intOf, sliOp, revOp, d1, d2, f1, f2]
/-- alike, and shown alike -/
theorem s_law_same (n : Nat) {x : PyData} {M : Nat} (h1 : sh 64 x) (h2 : nob x = true) (h3 : rk M 64 x) (hM : M ≤ 16777216) : callF tab (n + 1) "_law_same" [.va x, .va x] = .ret (.bool true) := by
  rw [u_law_same, go_def rfl]
  unfold F_law_same F_law_same_b
  refine go_ret ?_
  have e1 := okEq_sh h1 h1 (Nat.le_refl 64) (Nat.le_refl 64)
  have e2 : PyData.eqv x x = true := (eqv_iff x x h2 h2).mpr rfl
  have e3 := rok_rk h3 hM (Nat.le_refl 64)
  have e4 : okEq (.str x.shown) (.str x.shown) = true := rfl
  have e5 : PyData.eqv (.str x.shown) (.str x.shown) = true := by simp [PyData.eqv]
  simp [runF, ex, ev, evT, evB, evV, evA, evC, evO, evI, getS, retV, rd_v, sl_v, rd_non, sl_non, rd_int, sl_int, rd_bl, sl_bl, rd_str, sl_str, rd_glob, sl_glob, rd_neg, sl_neg, rd_vnot, sl_vnot, rd_bin, sl_bin, rd_cmp, sl_cmp, rd_isN, sl_isN, rd_notN, sl_notN, rd_chn, sl_chn, rd_vbo, sl_vbo, rd_ife, sl_ife, rd_tup, sl_tup, rd_lst, sl_lst, rd_sub, sl_sub, rd_sli, sl_sli, rd_rev, sl_rev, rd_isi, sl_isi, rd_fn, sl_fn, rd_met, sl_met, rd_call, sl_call, rd_comp, sl_comp, RG.start, T.chk, T.bind, outV, getR, getV, cmpOp, binOp, isiOp, f_len, f_abs, f_sum, f_all, f_tuple, f_sorted, f_repr, m_count, fnLen, fnAbs, fnTuple, asgT, asgT.asgL, wipeR, itOp, truth, plOf, small, RG.setP, frs, isFr, ownOf, getO, subOp, plainI, notOw, notOwA, augOp, enumOp, zipOp, intOf, sliOp, revOp, fnRepr, e1, e2, e3, e4, e5]
/-! ### ranks -/
def cG (ys : List Int) (y : Int) : Nat := (ys.filter fun o => decide (y < o)).length
def rkD (ys : List Int) (y : Int) : PyData := .tuple [.int ((cG ys y : Int) + 1), .int ((cG ys y : Int) + (ys.count y : Nat))]
theorem s_ranks_of (n : Nat) {ys : List Int} (h : OKY ys) : callF tab (n + 4) "ranks_of" [.va (yrs ys)] = .ret (.tuple (ys.map (rkD ys))) := by
  have hl := h.2.1
  rw [u_ranks_of, go_def rfl]
  unfold F_ranks_of F_ranks_of_b
  refine (go_exe (d := .none) (by simp [runF, ex, ev, evT, evB, evV, evA, evC, evO, evI, getS, retV, rd_v, sl_v, rd_non, sl_non, rd_int, sl_int, rd_bl, sl_bl, rd_str, sl_str, rd_glob, sl_glob, rd_neg, sl_neg, rd_vnot, sl_vnot, rd_bin, sl_bin, rd_cmp, sl_cmp, rd_isN, sl_isN, rd_notN, sl_notN, rd_chn, sl_chn, rd_vbo, sl_vbo, rd_ife, sl_ife, rd_tup, sl_tup, rd_lst, sl_lst, rd_sub, sl_sub, rd_sli, sl_sli, rd_rev, sl_rev, rd_isi, sl_isi, rd_fn, sl_fn, rd_met, sl_met, rd_call, sl_call, rd_comp, sl_comp, RG.start, T.chk, T.bind, outV, getR, getV, cmpOp, binOp, isiOp, f_len, f_abs, f_sum, f_all, f_tuple, f_sorted, f_repr, m_count, fnLen, fnAbs, fnTuple, asgT, asgT.asgL, wipeR, itOp, truth, plOf, small, RG.setP, frs, isFr, ownOf, getO, subOp, plainI, notOw, notOwA, augOp, enumOp, zipOp, intOf, sliOp, revOp, s_check_years n h])).trans ?_
  refine (go_asgO (ds := []) (by simp [runF, ex, ev, evT, evB, evV, evA, evC, evO, evI, getS, retV, rd_v, sl_v, rd_non, sl_non, rd_int, sl_int, rd_bl, sl_bl, rd_str, sl_str, rd_glob, sl_glob, rd_neg, sl_neg, rd_vnot, sl_vnot, rd_bin, sl_bin, rd_cmp, sl_cmp, rd_isN, sl_isN, rd_notN, sl_notN, rd_chn, sl_chn, rd_vbo, sl_vbo, rd_ife, sl_ife, rd_tup, sl_tup, rd_lst, sl_lst, rd_sub, sl_sub, rd_sli, sl_sli, rd_rev, sl_rev, rd_isi, sl_isi, rd_fn, sl_fn, rd_met, sl_met, rd_call, sl_call, rd_comp, sl_comp, RG.start, T.chk, T.bind, outV, getR, getV, cmpOp, binOp, isiOp, f_len, f_abs, f_sum, f_all, f_tuple, f_sorted, f_repr, m_count, fnLen, fnAbs, fnTuple, asgT, asgT.asgL, wipeR, itOp, truth, plOf, small, RG.setP, frs, isFr, ownOf, getO, subOp, plainI, notOw, notOwA, augOp, enumOp, zipOp, intOf, sliOp, revOp]) rfl).trans ?_
  obtain ⟨ρ', e1, s2, s3, s4, e2⟩ := forG_inv (f := fun d ρ => (asgT (.v 2) d ρ).bind fun ρ' => ex (callF tab (n + 3)) L_ranks_of_0 ρ') (m := PyData.int) (all := ys)
    (I := fun done ρ => ∃ s2 s3 s4, ρ = [.va (yrs ys), .ow (.list (done.map (rkD ys))), s2, s3, s4]) (fun done x rest ρ e ⟨s2, s3, s4, e2⟩ => by
      subst e2
      have hd : done.length < 16777216 := by
        have := congrArg List.length e
        rw [List.length_append, List.length_cons] at this
        omega
      have c0 : ∀ s3, ev (callF tab (n + 3)) C_ranks_of_0 [.va (yrs ys), .ow (.list (done.map (rkD ys))), .va (.int x), s3, s4] = .ret (.list ((ys.filter fun o => decide (x < o)).map fun _ => .int 1)) := fun s3 =>
        e_comp (ds := iL ys) (by simp [runF, ex, ev, evT, evB, evV, evA, evC, evO, evI, getS, retV, rd_v, sl_v, rd_non, sl_non, rd_int, sl_int, rd_bl, sl_bl, rd_str, sl_str, rd_glob, sl_glob, rd_neg, sl_neg, rd_vnot, sl_vnot, rd_bin, sl_bin, rd_cmp, sl_cmp, rd_isN, sl_isN, rd_notN, sl_notN, rd_chn, sl_chn, rd_vbo, sl_vbo, rd_ife, sl_ife, rd_tup, sl_tup, rd_lst, sl_lst, rd_sub, sl_sub, rd_sli, sl_sli, rd_rev, sl_rev, rd_isi, sl_isi, rd_fn, sl_fn, rd_met, sl_met, rd_call, sl_call, rd_comp, sl_comp, RG.start, T.chk, T.bind, outV, getR, getV, cmpOp, binOp, isiOp, f_len, f_abs, f_sum, f_all, f_tuple, f_sorted, f_repr, m_count, fnLen, fnAbs, fnTuple, asgT, asgT.asgL, wipeR, itOp, truth, plOf, small, RG.setP, frs, isFr, ownOf, getO, subOp, plainI, notOw, notOwA, augOp, enumOp, zipOp, intOf, sliOp, revOp]) (lcG_if fun o _ => by
          simp [runF, ex, ev, evT, evB, evV, evA, evC, evO, evI, getS, retV, rd_v, sl_v, rd_non, sl_non, rd_int, sl_int, rd_bl, sl_bl, rd_str, sl_str, rd_glob, sl_glob, rd_neg, sl_neg, rd_vnot, sl_vnot, rd_bin, sl_bin, rd_cmp, sl_cmp, rd_isN, sl_isN, rd_notN, sl_notN, rd_chn, sl_chn, rd_vbo, sl_vbo, rd_ife, sl_ife, rd_tup, sl_tup, rd_lst, sl_lst, rd_sub, sl_sub, rd_sli, sl_sli, rd_rev, sl_rev, rd_isi, sl_isi, rd_fn, sl_fn, rd_met, sl_met, rd_call, sl_call, rd_comp, sl_comp, RG.start, T.chk, T.bind, outV, getR, getV, cmpOp, binOp, isiOp, f_len, f_abs, f_sum, f_all, f_tuple, f_sorted, f_repr, m_count, fnLen, fnAbs, fnTuple, asgT, asgT.asgL, wipeR, itOp, truth, plOf, small, RG.setP, frs, isFr, ownOf, getO, subOp, plainI, notOw, notOwA, augOp, enumOp, zipOp, intOf, sliOp, revOp, lcF]
          by_cases z : x < o <;> simp [z, T.bind])
      refine ⟨_, ?_, .va (.int x), .va (.int (cG ys x : Nat)), s4, rfl⟩
      have mc := metCount_iL ys x
      simp [runF, ex, ev, evT, evB, evV, evA, evC, evO, evI, getS, retV, rd_v, sl_v, rd_non, sl_non, rd_int, sl_int, rd_bl, sl_bl, rd_str, sl_str, rd_glob, sl_glob, rd_neg, sl_neg, rd_vnot, sl_vnot, rd_bin, sl_bin, rd_cmp, sl_cmp, rd_isN, sl_isN, rd_notN, sl_notN, rd_chn, sl_chn, rd_vbo, sl_vbo, rd_ife, sl_ife, rd_tup, sl_tup, rd_lst, sl_lst, rd_sub, sl_sub, rd_sli, sl_sli, rd_rev, sl_rev, rd_isi, sl_isi, rd_fn, sl_fn, rd_met, sl_met, rd_call, sl_call, rd_comp, sl_comp, RG.start, T.chk, T.bind, outV, getR, getV, cmpOp, binOp, isiOp, f_len, f_abs, f_sum, f_all, f_tuple, f_sorted, f_repr, m_count, fnLen, fnAbs, fnTuple, asgT, asgT.asgL, wipeR, itOp, truth, plOf, small, RG.setP, frs, isFr, ownOf, getO, subOp, plainI, notOw, notOwA, augOp, enumOp, zipOp, intOf, sliOp, revOp, L_ranks_of_0, c0, rd_C_ranks_of_0, mc, hd, rkD, cG]) (ρ := [.va (yrs ys), .ow (.list []), .no, .no, .no]) ⟨_, _, _, rfl⟩
  subst e2
  refine (go_for (ds := iL ys) rfl (by simp [runF, ex, ev, evT, evB, evV, evA, evC, evO, evI, getS, retV, rd_v, sl_v, rd_non, sl_non, rd_int, sl_int, rd_bl, sl_bl, rd_str, sl_str, rd_glob, sl_glob, rd_neg, sl_neg, rd_vnot, sl_vnot, rd_bin, sl_bin, rd_cmp, sl_cmp, rd_isN, sl_isN, rd_notN, sl_notN, rd_chn, sl_chn, rd_vbo, sl_vbo, rd_ife, sl_ife, rd_tup, sl_tup, rd_lst, sl_lst, rd_sub, sl_sub, rd_sli, sl_sli, rd_rev, sl_rev, rd_isi, sl_isi, rd_fn, sl_fn, rd_met, sl_met, rd_call, sl_call, rd_comp, sl_comp, RG.start, T.chk, T.bind, outV, getR, getV, cmpOp, binOp, isiOp, f_len, f_abs, f_sum, f_all, f_tuple, f_sorted, f_repr, m_count, fnLen, fnAbs, fnTuple, asgT, asgT.asgL, wipeR, itOp, truth, plOf, small, RG.setP, frs, isFr, ownOf, getO, subOp, plainI, notOw, notOwA, augOp, enumOp, zipOp, intOf, sliOp, revOp]) e1).trans ?_
  refine go_ret ?_
  simp [runF, ex, ev, evT, evB, evV, evA, evC, evO, evI, getS, retV, rd_v, sl_v, rd_non, sl_non, rd_int, sl_int, rd_bl, sl_bl, rd_str, sl_str, rd_glob, sl_glob, rd_neg, sl_neg, rd_vnot, sl_vnot, rd_bin, sl_bin, rd_cmp, sl_cmp, rd_isN, sl_isN, rd_notN, sl_notN, rd_chn, sl_chn, rd_vbo, sl_vbo, rd_ife, sl_ife, rd_tup, sl_tup, rd_lst, sl_lst, rd_sub, sl_sub, rd_sli, sl_sli, rd_rev, sl_rev, rd_isi, sl_isi, rd_fn, sl_fn, rd_met, sl_met, rd_call, sl_call, rd_comp, sl_comp, RG.start, T.chk, T.bind, outV, getR, getV, cmpOp, binOp, isiOp, f_len, f_abs, f_sum, f_all, f_tuple, f_sorted, f_repr, m_count, fnLen, fnAbs, fnTuple, asgT, asgT.asgL, wipeR, itOp, truth, plOf, small, RG.setP, frs, isFr, ownOf, getO, subOp, plainI, notOw, notOwA, augOp, enumOp, zipOp, intOf, sliOp, revOp]
end K63
end

section
set_option Elab.async false
set_option linter.all false
set_option maxRecDepth 100000
set_option maxHeartbeats 4000000
namespace K63
open PySem RG
theorem big_small {n : Nat} (h : n < 18446744073709551616) : n < 2 ^ 9000 := Nat.lt_of_lt_of_le h (by decide +kernel)
theorem cG_le (ys : List Int) (y : Int) : cG ys y ≤ ys.length := List.length_filter_le _ _
theorem s_returns_of (n : Nat) {ys : List Int} (h : OKY ys) : callF tab (n + 5) "returns_of" [.va (yrs ys)] = .ret (.tuple (ys.map fun y => qt (ys.length + 1) (cG ys y + ys.count y))) := by
  have hl := h.2.1
  rw [u_returns_of, go_def rfl]
  unfold F_returns_of F_returns_of_b
  have c0 : ev (callF tab (n + 4)) C_returns_of_0 [.va (yrs ys), .no, .no] = .ret (.list (ys.map fun y => qt (ys.length + 1) (cG ys y + ys.count y))) :=
    e_comp (ds := ys.map (rkD ys)) (by simp [runF, ex, ev, evT, evB, evV, evA, evC, evO, evI, getS, retV, rd_v, sl_v, rd_non, sl_non, rd_int, sl_int, rd_bl, sl_bl, rd_str, sl_str, rd_glob, sl_glob, rd_neg, sl_neg, rd_vnot, sl_vnot, rd_bin, sl_bin, rd_cmp, sl_cmp, rd_isN, sl_isN, rd_notN, sl_notN, rd_chn, sl_chn, rd_vbo, sl_vbo, rd_ife, sl_ife, rd_tup, sl_tup, rd_lst, sl_lst, rd_sub, sl_sub, rd_sli, sl_sli, rd_rev, sl_rev, rd_isi, sl_isi, rd_fn, sl_fn, rd_met, sl_met, rd_call, sl_call, rd_comp, sl_comp, RG.start, T.chk, T.bind, outV, getR, getV, cmpOp, binOp, isiOp, f_len, f_abs, f_sum, f_all, f_tuple, f_sorted, f_repr, m_count, fnLen, fnAbs, fnTuple, asgT, asgT.asgL, wipeR, itOp, truth, plOf, small, RG.setP, frs, isFr, ownOf, getO, subOp, plainI, notOw, notOwA, augOp, enumOp, zipOp, intOf, sliOp, revOp, s_ranks_of n h]) (lcG_over fun y hy => by
      have h1 := cG_le ys y
      have h2 := List.count_le_length (a := y) (l := ys)
      have q := s_quotient (n + 3) (u := ys.length + 1) (d := cG ys y + ys.count y) (big_small (by omega)) (big_small (by omega)) (.inl (by omega))
      rw [Int.natCast_add, Int.natCast_add] at q
      have q : callF tab (n + 4) "quotient" [.va (.int ((ys.length : Int) + 1)), .va (.int ((cG ys y : Int) + (ys.count y : Nat)))] = .ret (qt (ys.length + 1) (cG ys y + ys.count y)) := q
      simp [runF, ex, ev, evT, evB, evV, evA, evC, evO, evI, getS, retV, rd_v, sl_v, rd_non, sl_non, rd_int, sl_int, rd_bl, sl_bl, rd_str, sl_str, rd_glob, sl_glob, rd_neg, sl_neg, rd_vnot, sl_vnot, rd_bin, sl_bin, rd_cmp, sl_cmp, rd_isN, sl_isN, rd_notN, sl_notN, rd_chn, sl_chn, rd_vbo, sl_vbo, rd_ife, sl_ife, rd_tup, sl_tup, rd_lst, sl_lst, rd_sub, sl_sub, rd_sli, sl_sli, rd_rev, sl_rev, rd_isi, sl_isi, rd_fn, sl_fn, rd_met, sl_met, rd_call, sl_call, rd_comp, sl_comp, RG.start, T.chk, T.bind, outV, getR, getV, cmpOp, binOp, isiOp, f_len, f_abs, f_sum, f_all, f_tuple, f_sorted, f_repr, m_count, fnLen, fnAbs, fnTuple, asgT, asgT.asgL, wipeR, itOp, truth, plOf, small, RG.setP, frs, isFr, ownOf, getO, subOp, plainI, notOw, notOwA, augOp, enumOp, zipOp, intOf, sliOp, revOp, lcF, rkD, q])
  refine go_ret ?_
  simp [runF, ex, ev, evT, evB, evV, evA, evC, evO, evI, getS, retV, rd_v, sl_v, rd_non, sl_non, rd_int, sl_int, rd_bl, sl_bl, rd_str, sl_str, rd_glob, sl_glob, rd_neg, sl_neg, rd_vnot, sl_vnot, rd_bin, sl_bin, rd_cmp, sl_cmp, rd_isN, sl_isN, rd_notN, sl_notN, rd_chn, sl_chn, rd_vbo, sl_vbo, rd_ife, sl_ife, rd_tup, sl_tup, rd_lst, sl_lst, rd_sub, sl_sub, rd_sli, sl_sli, rd_rev, sl_rev, rd_isi, sl_isi, rd_fn, sl_fn, rd_met, sl_met, rd_call, sl_call, rd_comp, sl_comp, RG.start, T.chk, T.bind, outV, getR, getV, cmpOp, binOp, isiOp, f_len, f_abs, f_sum, f_all, f_tuple, f_sorted, f_repr, m_count, fnLen, fnAbs, fnTuple, asgT, asgT.asgL, wipeR, itOp, truth, plOf, small, RG.setP, frs, isFr, ownOf, getO, subOp, plainI, notOw, notOwA, augOp, enumOp, zipOp, intOf, sliOp, revOp, c0, rd_C_returns_of_0]
/-- the two in the middle, put together -/
def midS (ys : List Int) : Int := (sortI ys).getD ((ys.length - 1) / 2) 0 + (sortI ys).getD (ys.length / 2) 0
theorem mid_get {ys : List Int} {k : Nat} (h : k < ys.length) : (sortI ys)[k]? = some ((sortI ys).getD k 0) := by
  rw [List.getD_eq_getElem?_getD, List.getElem?_eq_getElem (by rw [sortI_len]; exact h)]
  rfl
theorem sort_at {ys : List Int} (h : OKY ys) {k : Nat} (hk : k < ys.length) : 0 ≤ (sortI ys).getD k 0 ∧ (sortI ys).getD k 0 ≤ 1000000000000 := h.2.2 _ (sortI_mem.mp (List.mem_of_getElem? (mid_get hk)))
theorem s_median_of (n : Nat) {ys : List Int} (h : OKY ys) : callF tab (n + 4) "median_of" [.va (yrs ys)] = .ret (qt (midS ys).toNat 2) := by
  have hl := h.2.1
  have hl1 := h.1
  rw [u_median_of, go_def rfl]
  unfold F_median_of F_median_of_b
  refine (go_exe (d := .none) (by simp [runF, ex, ev, evT, evB, evV, evA, evC, evO, evI, getS, retV, rd_v, sl_v, rd_non, sl_non, rd_int, sl_int, rd_bl, sl_bl, rd_str, sl_str, rd_glob, sl_glob, rd_neg, sl_neg, rd_vnot, sl_vnot, rd_bin, sl_bin, rd_cmp, sl_cmp, rd_isN, sl_isN, rd_notN, sl_notN, rd_chn, sl_chn, rd_vbo, sl_vbo, rd_ife, sl_ife, rd_tup, sl_tup, rd_lst, sl_lst, rd_sub, sl_sub, rd_sli, sl_sli, rd_rev, sl_rev, rd_isi, sl_isi, rd_fn, sl_fn, rd_met, sl_met, rd_call, sl_call, rd_comp, sl_comp, RG.start, T.chk, T.bind, outV, getR, getV, cmpOp, binOp, isiOp, f_len, f_abs, f_sum, f_all, f_tuple, f_sorted, f_repr, m_count, fnLen, fnAbs, fnTuple, asgT, asgT.asgL, wipeR, itOp, truth, plOf, small, RG.setP, frs, isFr, ownOf, getO, subOp, plainI, notOw, notOwA, augOp, enumOp, zipOp, intOf, sliOp, revOp, s_check_years n h])).trans ?_
  refine (go_asg (d := .list (iL (sortI ys))) (by simp [runF, ex, ev, evT, evB, evV, evA, evC, evO, evI, getS, retV, rd_v, sl_v, rd_non, sl_non, rd_int, sl_int, rd_bl, sl_bl, rd_str, sl_str, rd_glob, sl_glob, rd_neg, sl_neg, rd_vnot, sl_vnot, rd_bin, sl_bin, rd_cmp, sl_cmp, rd_isN, sl_isN, rd_notN, sl_notN, rd_chn, sl_chn, rd_vbo, sl_vbo, rd_ife, sl_ife, rd_tup, sl_tup, rd_lst, sl_lst, rd_sub, sl_sub, rd_sli, sl_sli, rd_rev, sl_rev, rd_isi, sl_isi, rd_fn, sl_fn, rd_met, sl_met, rd_call, sl_call, rd_comp, sl_comp, RG.start, T.chk, T.bind, outV, getR, getV, cmpOp, binOp, isiOp, f_len, f_abs, f_sum, f_all, f_tuple, f_sorted, f_repr, m_count, fnLen, fnAbs, fnTuple, asgT, asgT.asgL, wipeR, itOp, truth, plOf, small, RG.setP, frs, isFr, ownOf, getO, subOp, plainI, notOw, notOwA, augOp, enumOp, zipOp, intOf, sliOp, revOp, fnSorted_T])).trans ?_
  have hL := sortI_len ys
  have hd := divOk_lit (i := (ys.length : Int)) (j := 2) (by decide) (by decide)
  have hf : (ys.length : Int).fdiv 2 = ((ys.length / 2 : Nat) : Int) := fdiv_nat ys.length 2
  refine (go_asg (d := .int ((ys.length / 2 : Nat) : Int)) (by simp [runF, ex, ev, evT, evB, evV, evA, evC, evO, evI, getS, retV, rd_v, sl_v, rd_non, sl_non, rd_int, sl_int, rd_bl, sl_bl, rd_str, sl_str, rd_glob, sl_glob, rd_neg, sl_neg, rd_vnot, sl_vnot, rd_bin, sl_bin, rd_cmp, sl_cmp, rd_isN, sl_isN, rd_notN, sl_notN, rd_chn, sl_chn, rd_vbo, sl_vbo, rd_ife, sl_ife, rd_tup, sl_tup, rd_lst, sl_lst, rd_sub, sl_sub, rd_sli, sl_sli, rd_rev, sl_rev, rd_isi, sl_isi, rd_fn, sl_fn, rd_met, sl_met, rd_call, sl_call, rd_comp, sl_comp, RG.start, T.chk, T.bind, outV, getR, getV, cmpOp, binOp, isiOp, f_len, f_abs, f_sum, f_all, f_tuple, f_sorted, f_repr, m_count, fnLen, fnAbs, fnTuple, asgT, asgT.asgL, wipeR, itOp, truth, plOf, small, RG.setP, frs, isFr, ownOf, getO, subOp, plainI, notOw, notOwA, augOp, enumOp, zipOp, intOf, sliOp, revOp, hL, hd, hf])).trans ?_
  refine go_ret ?_
  have hm : mulOk 2 ((ys.length / 2 : Nat) : Int) = true := mulOk_l (by decide)
  by_cases e : ys.length % 2 = 1
  · have hk : ys.length / 2 < ys.length := by omega
    have h0 := sort_at h hk
    have g := at_of (i := ((ys.length / 2 : Nat) : Int)) rfl (iL_get (mid_get hk))
    have c1 : (2 : Int) * ((ys.length / 2 : Nat) : Int) < (ys.length : Int) := by omega
    have em : midS ys = 2 * (sortI ys).getD (ys.length / 2) 0 := by
      unfold midS
      rw [show (ys.length - 1) / 2 = ys.length / 2 by omega]
      omega
    have eq : qt (midS ys).toNat 2 = .tuple [.int ((sortI ys).getD (ys.length / 2) 0), .int 1] := by
      rw [em]
      generalize (sortI ys).getD (ys.length / 2) 0 = r at *
      obtain ⟨m, rfl⟩ : ∃ m : Nat, r = (m : Int) := ⟨r.toNat, by omega⟩
      have e2 : (2 * (m : Int)).toNat = 2 * m := by omega
      rw [e2]
      unfold qt
      have e3 : Nat.gcd (2 * m) 2 = 2 := by rw [Nat.gcd_comm]; exact Nat.gcd_eq_left (Nat.dvd_mul_right 2 m)
      rw [e3, Nat.mul_div_cancel_left m (by decide)]
      rfl
    rw [eq]
    generalize (sortI ys).getD (ys.length / 2) 0 = r at *
    generalize ((ys.length / 2 : Nat) : Int) = hh at *
    simp [runF, ex, ev, evT, evB, evV, evA, evC, evO, evI, getS, retV, rd_v, sl_v, rd_non, sl_non, rd_int, sl_int, rd_bl, sl_bl, rd_str, sl_str, rd_glob, sl_glob, rd_neg, sl_neg, rd_vnot, sl_vnot, rd_bin, sl_bin, rd_cmp, sl_cmp, rd_isN, sl_isN, rd_notN, sl_notN, rd_chn, sl_chn, rd_vbo, sl_vbo, rd_ife, sl_ife, rd_tup, sl_tup, rd_lst, sl_lst, rd_sub, sl_sub, rd_sli, sl_sli, rd_rev, sl_rev, rd_isi, sl_isi, rd_fn, sl_fn, rd_met, sl_met, rd_call, sl_call, rd_comp, sl_comp, RG.start, T.chk, T.bind, outV, getR, getV, cmpOp, binOp, isiOp, f_len, f_abs, f_sum, f_all, f_tuple, f_sorted, f_repr, m_count, fnLen, fnAbs, fnTuple, asgT, asgT.asgL, wipeR, itOp, truth, plOf, small, RG.setP, frs, isFr, ownOf, getO, subOp, plainI, notOw, notOwA, augOp, enumOp, zipOp, intOf, sliOp, revOp, hL, hm, c1, g]
  · have hk : ys.length / 2 < ys.length := by omega
    have hk1 : ys.length / 2 - 1 < ys.length := by omega
    have h0 := sort_at h hk
    have h1 := sort_at h hk1
    have g := at_of (i := ((ys.length / 2 : Nat) : Int)) rfl (iL_get (mid_get hk))
    have g1 := at_of (i := ((ys.length / 2 : Nat) : Int) - 1) (k := ys.length / 2 - 1) (by omega) (iL_get (mid_get hk1))
    have c1 : ¬ (2 : Int) * ((ys.length / 2 : Nat) : Int) < (ys.length : Int) := by omega
    have em : midS ys = (sortI ys).getD (ys.length / 2 - 1) 0 + (sortI ys).getD (ys.length / 2) 0 := by
      unfold midS
      rw [show (ys.length - 1) / 2 = ys.length / 2 - 1 by omega]
    rw [em]
    generalize (sortI ys).getD (ys.length / 2) 0 = r at *
    generalize (sortI ys).getD (ys.length / 2 - 1) 0 = r1 at *
    have q := s_quotient (n + 2) (u := (r1 + r).toNat) (d := 2) (big_small (by omega)) (big_small (by decide)) (.inr (by decide))
    rw [Int.toNat_of_nonneg (by omega)] at q
    have q : callF tab (n + 3) "quotient" [.va (.int (r1 + r)), .va (.int 2)] = .ret (qt (r1 + r).toNat 2) := q
    generalize ((ys.length / 2 : Nat) : Int) = hh at *
    simp [runF, ex, ev, evT, evB, evV, evA, evC, evO, evI, getS, retV, rd_v, sl_v, rd_non, sl_non, rd_int, sl_int, rd_bl, sl_bl, rd_str, sl_str, rd_glob, sl_glob, rd_neg, sl_neg, rd_vnot, sl_vnot, rd_bin, sl_bin, rd_cmp, sl_cmp, rd_isN, sl_isN, rd_notN, sl_notN, rd_chn, sl_chn, rd_vbo, sl_vbo, rd_ife, sl_ife, rd_tup, sl_tup, rd_lst, sl_lst, rd_sub, sl_sub, rd_sli, sl_sli, rd_rev, sl_rev, rd_isi, sl_isi, rd_fn, sl_fn, rd_met, sl_met, rd_call, sl_call, rd_comp, sl_comp, RG.start, T.chk, T.bind, outV, getR, getV, cmpOp, binOp, isiOp, f_len, f_abs, f_sum, f_all, f_tuple, f_sorted, f_repr, m_count, fnLen, fnAbs, fnTuple, asgT, asgT.asgL, wipeR, itOp, truth, plOf, small, RG.setP, frs, isFr, ownOf, getO, subOp, plainI, notOw, notOwA, augOp, enumOp, zipOp, intOf, sliOp, revOp, hL, hm, c1, g, g1, q]
theorem s_count_from (n : Nat) {ys : List Int} {l : Int} (h : OKY ys) (hl : 0 ≤ l ∧ l ≤ 1000000000000) : callF tab (n + 4) "count_from" [.va (yrs ys), .va (.int l)] = .ret (.int ((ys.filter fun o => decide (l ≤ o)).length : Nat)) := by
  rw [u_count_from, go_def rfl]
  unfold F_count_from F_count_from_b
  refine (go_exe (d := .none) (by simp [runF, ex, ev, evT, evB, evV, evA, evC, evO, evI, getS, retV, rd_v, sl_v, rd_non, sl_non, rd_int, sl_int, rd_bl, sl_bl, rd_str, sl_str, rd_glob, sl_glob, rd_neg, sl_neg, rd_vnot, sl_vnot, rd_bin, sl_bin, rd_cmp, sl_cmp, rd_isN, sl_isN, rd_notN, sl_notN, rd_chn, sl_chn, rd_vbo, sl_vbo, rd_ife, sl_ife, rd_tup, sl_tup, rd_lst, sl_lst, rd_sub, sl_sub, rd_sli, sl_sli, rd_rev, sl_rev, rd_isi, sl_isi, rd_fn, sl_fn, rd_met, sl_met, rd_call, sl_call, rd_comp, sl_comp, RG.start, T.chk, T.bind, outV, getR, getV, cmpOp, binOp, isiOp, f_len, f_abs, f_sum, f_all, f_tuple, f_sorted, f_repr, m_count, fnLen, fnAbs, fnTuple, asgT, asgT.asgL, wipeR, itOp, truth, plOf, small, RG.setP, frs, isFr, ownOf, getO, subOp, plainI, notOw, notOwA, augOp, enumOp, zipOp, intOf, sliOp, revOp, s_check_years n h])).trans ?_
  refine (go_exe (d := .none) (by simp [runF, ex, ev, evT, evB, evV, evA, evC, evO, evI, getS, retV, rd_v, sl_v, rd_non, sl_non, rd_int, sl_int, rd_bl, sl_bl, rd_str, sl_str, rd_glob, sl_glob, rd_neg, sl_neg, rd_vnot, sl_vnot, rd_bin, sl_bin, rd_cmp, sl_cmp, rd_isN, sl_isN, rd_notN, sl_notN, rd_chn, sl_chn, rd_vbo, sl_vbo, rd_ife, sl_ife, rd_tup, sl_tup, rd_lst, sl_lst, rd_sub, sl_sub, rd_sli, sl_sli, rd_rev, sl_rev, rd_isi, sl_isi, rd_fn, sl_fn, rd_met, sl_met, rd_call, sl_call, rd_comp, sl_comp, RG.start, T.chk, T.bind, outV, getR, getV, cmpOp, binOp, isiOp, f_len, f_abs, f_sum, f_all, f_tuple, f_sorted, f_repr, m_count, fnLen, fnAbs, fnTuple, asgT, asgT.asgL, wipeR, itOp, truth, plOf, small, RG.setP, frs, isFr, ownOf, getO, subOp, plainI, notOw, notOwA, augOp, enumOp, zipOp, intOf, sliOp, revOp, s_check_level n hl])).trans ?_
  have c0 : ev (callF tab (n + 3)) C_count_from_0 [.va (yrs ys), .va (.int l), .no] = .ret (.list ((ys.filter fun o => decide (l ≤ o)).map fun _ => .int 1)) :=
    e_comp (ds := iL ys) (by simp [runF, ex, ev, evT, evB, evV, evA, evC, evO, evI, getS, retV, rd_v, sl_v, rd_non, sl_non, rd_int, sl_int, rd_bl, sl_bl, rd_str, sl_str, rd_glob, sl_glob, rd_neg, sl_neg, rd_vnot, sl_vnot, rd_bin, sl_bin, rd_cmp, sl_cmp, rd_isN, sl_isN, rd_notN, sl_notN, rd_chn, sl_chn, rd_vbo, sl_vbo, rd_ife, sl_ife, rd_tup, sl_tup, rd_lst, sl_lst, rd_sub, sl_sub, rd_sli, sl_sli, rd_rev, sl_rev, rd_isi, sl_isi, rd_fn, sl_fn, rd_met, sl_met, rd_call, sl_call, rd_comp, sl_comp, RG.start, T.chk, T.bind, outV, getR, getV, cmpOp, binOp, isiOp, f_len, f_abs, f_sum, f_all, f_tuple, f_sorted, f_repr, m_count, fnLen, fnAbs, fnTuple, asgT, asgT.asgL, wipeR, itOp, truth, plOf, small, RG.setP, frs, isFr, ownOf, getO, subOp, plainI, notOw, notOwA, augOp, enumOp, zipOp, intOf, sliOp, revOp]) (lcG_if fun o _ => by
      simp [runF, ex, ev, evT, evB, evV, evA, evC, evO, evI, getS, retV, rd_v, sl_v, rd_non, sl_non, rd_int, sl_int, rd_bl, sl_bl, rd_str, sl_str, rd_glob, sl_glob, rd_neg, sl_neg, rd_vnot, sl_vnot, rd_bin, sl_bin, rd_cmp, sl_cmp, rd_isN, sl_isN, rd_notN, sl_notN, rd_chn, sl_chn, rd_vbo, sl_vbo, rd_ife, sl_ife, rd_tup, sl_tup, rd_lst, sl_lst, rd_sub, sl_sub, rd_sli, sl_sli, rd_rev, sl_rev, rd_isi, sl_isi, rd_fn, sl_fn, rd_met, sl_met, rd_call, sl_call, rd_comp, sl_comp, RG.start, T.chk, T.bind, outV, getR, getV, cmpOp, binOp, isiOp, f_len, f_abs, f_sum, f_all, f_tuple, f_sorted, f_repr, m_count, fnLen, fnAbs, fnTuple, asgT, asgT.asgL, wipeR, itOp, truth, plOf, small, RG.setP, frs, isFr, ownOf, getO, subOp, plainI, notOw, notOwA, augOp, enumOp, zipOp, intOf, sliOp, revOp, lcF]
      by_cases z : l ≤ o <;> simp [z, T.bind])
  refine go_ret ?_
  simp [runF, ex, ev, evT, evB, evV, evA, evC, evO, evI, getS, retV, rd_v, sl_v, rd_non, sl_non, rd_int, sl_int, rd_bl, sl_bl, rd_str, sl_str, rd_glob, sl_glob, rd_neg, sl_neg, rd_vnot, sl_vnot, rd_bin, sl_bin, rd_cmp, sl_cmp, rd_isN, sl_isN, rd_notN, sl_notN, rd_chn, sl_chn, rd_vbo, sl_vbo, rd_ife, sl_ife, rd_tup, sl_tup, rd_lst, sl_lst, rd_sub, sl_sub, rd_sli, sl_sli, rd_rev, sl_rev, rd_isi, sl_isi, rd_fn, sl_fn, rd_met, sl_met, rd_call, sl_call, rd_comp, sl_comp, RG.start, T.chk, T.bind, outV, getR, getV, cmpOp, binOp, isiOp, f_len, f_abs, f_sum, f_all, f_tuple, f_sorted, f_repr, m_count, fnLen, fnAbs, fnTuple, asgT, asgT.asgL, wipeR, itOp, truth, plOf, small, RG.setP, frs, isFr, ownOf, getO, subOp, plainI, notOw, notOwA, augOp, enumOp, zipOp, intOf, sliOp, revOp, c0, rd_C_count_from_0]
theorem s_level_for (n : Nat) {ys : List Int} {k : Nat} (h : OKY ys) (h1 : 1 ≤ k) (h2 : k ≤ ys.length) : callF tab (n + 4) "level_for" [.va (yrs ys), .va (.int (k : Int))] = .ret (.int ((sortI ys).getD (ys.length - k) 0)) := by
  have hl := h.2.1
  rw [u_level_for, go_def rfl]
  unfold F_level_for F_level_for_b
  refine (go_exe (d := .none) (by simp [runF, ex, ev, evT, evB, evV, evA, evC, evO, evI, getS, retV, rd_v, sl_v, rd_non, sl_non, rd_int, sl_int, rd_bl, sl_bl, rd_str, sl_str, rd_glob, sl_glob, rd_neg, sl_neg, rd_vnot, sl_vnot, rd_bin, sl_bin, rd_cmp, sl_cmp, rd_isN, sl_isN, rd_notN, sl_notN, rd_chn, sl_chn, rd_vbo, sl_vbo, rd_ife, sl_ife, rd_tup, sl_tup, rd_lst, sl_lst, rd_sub, sl_sub, rd_sli, sl_sli, rd_rev, sl_rev, rd_isi, sl_isi, rd_fn, sl_fn, rd_met, sl_met, rd_call, sl_call, rd_comp, sl_comp, RG.start, T.chk, T.bind, outV, getR, getV, cmpOp, binOp, isiOp, f_len, f_abs, f_sum, f_all, f_tuple, f_sorted, f_repr, m_count, fnLen, fnAbs, fnTuple, asgT, asgT.asgL, wipeR, itOp, truth, plOf, small, RG.setP, frs, isFr, ownOf, getO, subOp, plainI, notOw, notOwA, augOp, enumOp, zipOp, intOf, sliOp, revOp, s_check_years n h])).trans ?_
  have b1 : (1 : Int) ≤ (k : Int) := by omega
  have b2 : (k : Int) ≤ (ys.length : Int) := by omega
  have b := s_is_between (n + 1) (k : Int) 1 (ys.length : Int)
  rw [decide_eq_true b1, decide_eq_true b2] at b
  refine (go_no (by simp [runF, ex, ev, evT, evB, evV, evA, evC, evO, evI, getS, retV, rd_v, sl_v, rd_non, sl_non, rd_int, sl_int, rd_bl, sl_bl, rd_str, sl_str, rd_glob, sl_glob, rd_neg, sl_neg, rd_vnot, sl_vnot, rd_bin, sl_bin, rd_cmp, sl_cmp, rd_isN, sl_isN, rd_notN, sl_notN, rd_chn, sl_chn, rd_vbo, sl_vbo, rd_ife, sl_ife, rd_tup, sl_tup, rd_lst, sl_lst, rd_sub, sl_sub, rd_sli, sl_sli, rd_rev, sl_rev, rd_isi, sl_isi, rd_fn, sl_fn, rd_met, sl_met, rd_call, sl_call, rd_comp, sl_comp, RG.start, T.chk, T.bind, outV, getR, getV, cmpOp, binOp, isiOp, f_len, f_abs, f_sum, f_all, f_tuple, f_sorted, f_repr, m_count, fnLen, fnAbs, fnTuple, asgT, asgT.asgL, wipeR, itOp, truth, plOf, small, RG.setP, frs, isFr, ownOf, getO, subOp, plainI, notOw, notOwA, augOp, enumOp, zipOp, intOf, sliOp, revOp, b])).trans ?_
  refine go_ret ?_
  have g := at_of (i := (ys.length : Int) - (k : Int)) (k := ys.length - k) (by omega) (iL_get (mid_get (ys := ys) (by omega)))
  generalize (sortI ys).getD (ys.length - k) 0 = r at *
  simp [runF, ex, ev, evT, evB, evV, evA, evC, evO, evI, getS, retV, rd_v, sl_v, rd_non, sl_non, rd_int, sl_int, rd_bl, sl_bl, rd_str, sl_str, rd_glob, sl_glob, rd_neg, sl_neg, rd_vnot, sl_vnot, rd_bin, sl_bin, rd_cmp, sl_cmp, rd_isN, sl_isN, rd_notN, sl_notN, rd_chn, sl_chn, rd_vbo, sl_vbo, rd_ife, sl_ife, rd_tup, sl_tup, rd_lst, sl_lst, rd_sub, sl_sub, rd_sli, sl_sli, rd_rev, sl_rev, rd_isi, sl_isi, rd_fn, sl_fn, rd_met, sl_met, rd_call, sl_call, rd_comp, sl_comp, RG.start, T.chk, T.bind, outV, getR, getV, cmpOp, binOp, isiOp, f_len, f_abs, f_sum, f_all, f_tuple, f_sorted, f_repr, m_count, fnLen, fnAbs, fnTuple, asgT, asgT.asgL, wipeR, itOp, truth, plOf, small, RG.setP, frs, isFr, ownOf, getO, subOp, plainI, notOw, notOwA, augOp, enumOp, zipOp, intOf, sliOp, revOp, fnSorted_T, g]
end K63
end

section
set_option Elab.async false
set_option linter.all false
set_option maxRecDepth 100000
set_option maxHeartbeats 4000000
namespace K63
open PySem RG
def isRec (ys : List Int) (k : Nat) : Bool := (ys.take k).all fun o => decide (o < ys.getD k 0)
def recs (ys : List Int) : List Int := ((List.range ys.length).filter (isRec ys)).map fun (k : Nat) => (k : Int)
theorem range_split {n x : Nat} {done rest : List Nat} (e : List.range n = done ++ x :: rest) : done = List.range done.length ∧ x = done.length ∧ done.length < n := by
  have hl := congrArg List.length e
  rw [List.length_range, List.length_append, List.length_cons] at hl
  have h1 : done.length < n := by omega
  have h2 : (List.range n).take done.length = done := by rw [e, List.take_left]
  have h3 : (List.range n)[done.length]? = some x := by rw [e, List.getElem?_append_right (Nat.le_refl _)]; simp
  rw [List.take_range, Nat.min_eq_left (by omega)] at h2
  rw [List.getElem?_range h1] at h3
  exact ⟨h2.symm, (Option.some.inj h3).symm, h1⟩
theorem take_mem_succ {ys : List Int} {j : Nat} (hj : j < ys.length) {P : Int → Prop} : (∀ o ∈ ys.take (j + 1), P o) ↔ (∀ o ∈ ys.take j, P o) ∧ P (ys.getD j 0) := by
  have e : ys.take (j + 1) = ys.take j ++ [ys.getD j 0] := by
    rw [List.take_add_one, List.getD_eq_getElem?_getD, List.getElem?_eq_getElem hj]
    rfl
  rw [e]
  constructor
  · intro h
    exact ⟨fun o ho => h o (List.mem_append_left _ ho), h _ (List.mem_append_right _ List.mem_cons_self)⟩
  · rintro ⟨h1, h2⟩ o ho
    rcases List.mem_append.mp ho with ho | ho
    · exact h1 o ho
    · rw [List.mem_singleton.mp ho]; exact h2
theorem s_record_years (n : Nat) {ys : List Int} (h : OKY ys) : callF tab (n + 4) "record_years" [.va (yrs ys)] = .ret (.tuple (iL (recs ys))) := by
  have hl := h.2.1
  rw [u_record_years, go_def rfl]
  unfold F_record_years F_record_years_b
  refine (go_exe (d := .none) (by simp [runF, ex, ev, evT, evB, evV, evA, evC, evO, evI, getS, retV, rd_v, sl_v, rd_non, sl_non, rd_int, sl_int, rd_bl, sl_bl, rd_str, sl_str, rd_glob, sl_glob, rd_neg, sl_neg, rd_vnot, sl_vnot, rd_bin, sl_bin, rd_cmp, sl_cmp, rd_isN, sl_isN, rd_notN, sl_notN, rd_chn, sl_chn, rd_vbo, sl_vbo, rd_ife, sl_ife, rd_tup, sl_tup, rd_lst, sl_lst, rd_sub, sl_sub, rd_sli, sl_sli, rd_rev, sl_rev, rd_isi, sl_isi, rd_fn, sl_fn, rd_met, sl_met, rd_call, sl_call, rd_comp, sl_comp, RG.start, T.chk, T.bind, outV, getR, getV, cmpOp, binOp, isiOp, f_len, f_abs, f_sum, f_all, f_tuple, f_sorted, f_repr, m_count, fnLen, fnAbs, fnTuple, asgT, asgT.asgL, wipeR, itOp, truth, plOf, small, RG.setP, frs, isFr, ownOf, getO, subOp, plainI, notOw, notOwA, augOp, enumOp, zipOp, intOf, sliOp, revOp, s_check_years n h])).trans ?_
  refine (go_asgP (xs := [.va (.list []), .va (.int (-1))]) (ρ' := [.va (yrs ys), .ow (.list []), .va (.int (-1)), .no, .no]) (by simp [runF, ex, ev, evT, evB, evV, evA, evC, evO, evI, getS, retV, rd_v, sl_v, rd_non, sl_non, rd_int, sl_int, rd_bl, sl_bl, rd_str, sl_str, rd_glob, sl_glob, rd_neg, sl_neg, rd_vnot, sl_vnot, rd_bin, sl_bin, rd_cmp, sl_cmp, rd_isN, sl_isN, rd_notN, sl_notN, rd_chn, sl_chn, rd_vbo, sl_vbo, rd_ife, sl_ife, rd_tup, sl_tup, rd_lst, sl_lst, rd_sub, sl_sub, rd_sli, sl_sli, rd_rev, sl_rev, rd_isi, sl_isi, rd_fn, sl_fn, rd_met, sl_met, rd_call, sl_call, rd_comp, sl_comp, RG.start, T.chk, T.bind, outV, getR, getV, cmpOp, binOp, isiOp, f_len, f_abs, f_sum, f_all, f_tuple, f_sorted, f_repr, m_count, fnLen, fnAbs, fnTuple, asgT, asgT.asgL, wipeR, itOp, truth, plOf, small, RG.setP, frs, isFr, ownOf, getO, subOp, plainI, notOw, notOwA, augOp, enumOp, zipOp, intOf, sliOp, revOp]) (by simp [runF, ex, ev, evT, evB, evV, evA, evC, evO, evI, getS, retV, rd_v, sl_v, rd_non, sl_non, rd_int, sl_int, rd_bl, sl_bl, rd_str, sl_str, rd_glob, sl_glob, rd_neg, sl_neg, rd_vnot, sl_vnot, rd_bin, sl_bin, rd_cmp, sl_cmp, rd_isN, sl_isN, rd_notN, sl_notN, rd_chn, sl_chn, rd_vbo, sl_vbo, rd_ife, sl_ife, rd_tup, sl_tup, rd_lst, sl_lst, rd_sub, sl_sub, rd_sli, sl_sli, rd_rev, sl_rev, rd_isi, sl_isi, rd_fn, sl_fn, rd_met, sl_met, rd_call, sl_call, rd_comp, sl_comp, RG.start, T.chk, T.bind, outV, getR, getV, cmpOp, binOp, isiOp, f_len, f_abs, f_sum, f_all, f_tuple, f_sorted, f_repr, m_count, fnLen, fnAbs, fnTuple, asgT, asgT.asgL, wipeR, itOp, truth, plOf, small, RG.setP, frs, isFr, ownOf, getO, subOp, plainI, notOw, notOwA, augOp, enumOp, zipOp, intOf, sliOp, revOp])).trans ?_
  obtain ⟨ρ', e1, mst, s3, s4, e2, _⟩ := forG_inv (f := fun d ρ => (asgT (.tup (.cons (.v 3) (.cons (.v 4) .nil))) d ρ).bind fun ρ' => ex (callF tab (n + 3)) L_record_years_0 ρ') (m := fun i : Nat => PyData.tuple [.int ((0 + i : Nat) : Int), .int (ys.getD i 0)]) (all := List.range ys.length)
    (I := fun done ρ => ∃ mst s3 s4, ρ = [.va (yrs ys), .ow (.list (iL ((done.filter (isRec ys)).map fun (k : Nat) => (k : Int)))), .va (.int mst), s3, s4] ∧ ∀ y : Int, 0 ≤ y → (mst < y ↔ ∀ o ∈ ys.take done.length, o < y)) (fun done x rest ρ e ⟨mst, s3, s4, e2, hm⟩ => by
      subst e2
      obtain ⟨r1, r2, r3⟩ := range_split e
      have hx : 0 ≤ ys.getD x 0 := by
        rw [List.getD_eq_getElem?_getD, List.getElem?_eq_getElem (by omega)]
        exact (h.2.2 _ (List.getElem_mem _)).1
      have hd : (done.filter (isRec ys)).length < 16777216 := Nat.lt_of_le_of_lt (List.length_filter_le _ _) (by omega)
      have hr : mst < ys.getD x 0 ↔ isRec ys x = true := by
        rw [hm _ hx]
        unfold isRec
        rw [List.all_eq_true, r2]
        simp
      have hlen : (done ++ [x]).length = done.length + 1 := by simp
      by_cases z : mst < ys.getD x 0
      · have zr := hr.mp z
        refine ⟨_, ?_, ys.getD x 0, .va (.int (x : Int)), .va (.int (ys.getD x 0)), rfl, fun y hy => ?_⟩
        · rw [List.filter_append]
          have e3 : [x].filter (isRec ys) = [x] := by simp [zr]
          rw [e3]
          generalize ys.getD x 0 = v at *
          simp [runF, ex, ev, evT, evB, evV, evA, evC, evO, evI, getS, retV, rd_v, sl_v, rd_non, sl_non, rd_int, sl_int, rd_bl, sl_bl, rd_str, sl_str, rd_glob, sl_glob, rd_neg, sl_neg, rd_vnot, sl_vnot, rd_bin, sl_bin, rd_cmp, sl_cmp, rd_isN, sl_isN, rd_notN, sl_notN, rd_chn, sl_chn, rd_vbo, sl_vbo, rd_ife, sl_ife, rd_tup, sl_tup, rd_lst, sl_lst, rd_sub, sl_sub, rd_sli, sl_sli, rd_rev, sl_rev, rd_isi, sl_isi, rd_fn, sl_fn, rd_met, sl_met, rd_call, sl_call, rd_comp, sl_comp, RG.start, T.chk, T.bind, outV, getR, getV, cmpOp, binOp, isiOp, f_len, f_abs, f_sum, f_all, f_tuple, f_sorted, f_repr, m_count, fnLen, fnAbs, fnTuple, asgT, asgT.asgL, wipeR, itOp, truth, plOf, small, RG.setP, frs, isFr, ownOf, getO, subOp, plainI, notOw, notOwA, augOp, enumOp, zipOp, intOf, sliOp, revOp, L_record_years_0, z, hd]
        · rw [hlen, take_mem_succ (P := fun o => o < y) r3, ← r2]
          refine ⟨fun q => ⟨fun o ho => ?_, q⟩, fun q => q.2⟩
          have := (hm _ hx).mp z o (by rw [r2] at ho; exact ho)
          omega
      · have zr : isRec ys x = false := by
          cases q : isRec ys x with
          | false => rfl
          | true => exact absurd (hr.mpr q) z
        refine ⟨_, ?_, mst, .va (.int (x : Int)), .va (.int (ys.getD x 0)), rfl, fun y hy => ?_⟩
        · rw [List.filter_append]
          have e3 : [x].filter (isRec ys) = [] := by simp [zr]
          rw [e3, List.append_nil]
          generalize ys.getD x 0 = v at *
          simp [runF, ex, ev, evT, evB, evV, evA, evC, evO, evI, getS, retV, rd_v, sl_v, rd_non, sl_non, rd_int, sl_int, rd_bl, sl_bl, rd_str, sl_str, rd_glob, sl_glob, rd_neg, sl_neg, rd_vnot, sl_vnot, rd_bin, sl_bin, rd_cmp, sl_cmp, rd_isN, sl_isN, rd_notN, sl_notN, rd_chn, sl_chn, rd_vbo, sl_vbo, rd_ife, sl_ife, rd_tup, sl_tup, rd_lst, sl_lst, rd_sub, sl_sub, rd_sli, sl_sli, rd_rev, sl_rev, rd_isi, sl_isi, rd_fn, sl_fn, rd_met, sl_met, rd_call, sl_call, rd_comp, sl_comp, RG.start, T.chk, T.bind, outV, getR, getV, cmpOp, binOp, isiOp, f_len, f_abs, f_sum, f_all, f_tuple, f_sorted, f_repr, m_count, fnLen, fnAbs, fnTuple, asgT, asgT.asgL, wipeR, itOp, truth, plOf, small, RG.setP, frs, isFr, ownOf, getO, subOp, plainI, notOw, notOwA, augOp, enumOp, zipOp, intOf, sliOp, revOp, L_record_years_0, z]
        · rw [hlen, take_mem_succ (P := fun o => o < y) r3, ← r2, hm y hy, ← r2]
          refine ⟨fun q => ⟨q, ?_⟩, fun q => q.1⟩
          have := (hm y hy).mpr (by rw [← r2]; exact q)
          omega) (ρ := [.va (yrs ys), .ow (.list []), .va (.int (-1)), .no, .no]) ⟨-1, .no, .no, rfl, fun y hy => ⟨fun _ o ho => by simp at ho, fun _ => by omega⟩⟩
  subst e2
  refine (go_for (ds := (List.range ys.length).map fun i => PyData.tuple [.int ((0 + i : Nat) : Int), .int (ys.getD i 0)]) rfl ?_ e1).trans ?_
  · have := enum_iL ys 0
    rw [← this]
    simp [runF, ex, ev, evT, evB, evV, evA, evC, evO, evI, getS, retV, rd_v, sl_v, rd_non, sl_non, rd_int, sl_int, rd_bl, sl_bl, rd_str, sl_str, rd_glob, sl_glob, rd_neg, sl_neg, rd_vnot, sl_vnot, rd_bin, sl_bin, rd_cmp, sl_cmp, rd_isN, sl_isN, rd_notN, sl_notN, rd_chn, sl_chn, rd_vbo, sl_vbo, rd_ife, sl_ife, rd_tup, sl_tup, rd_lst, sl_lst, rd_sub, sl_sub, rd_sli, sl_sli, rd_rev, sl_rev, rd_isi, sl_isi, rd_fn, sl_fn, rd_met, sl_met, rd_call, sl_call, rd_comp, sl_comp, RG.start, T.chk, T.bind, outV, getR, getV, cmpOp, binOp, isiOp, f_len, f_abs, f_sum, f_all, f_tuple, f_sorted, f_repr, m_count, fnLen, fnAbs, fnTuple, asgT, asgT.asgL, wipeR, itOp, truth, plOf, small, RG.setP, frs, isFr, ownOf, getO, subOp, plainI, notOw, notOwA, augOp, enumOp, zipOp, intOf, sliOp, revOp]
  refine go_ret ?_
  unfold recs
  simp [runF, ex, ev, evT, evB, evV, evA, evC, evO, evI, getS, retV, rd_v, sl_v, rd_non, sl_non, rd_int, sl_int, rd_bl, sl_bl, rd_str, sl_str, rd_glob, sl_glob, rd_neg, sl_neg, rd_vnot, sl_vnot, rd_bin, sl_bin, rd_cmp, sl_cmp, rd_isN, sl_isN, rd_notN, sl_notN, rd_chn, sl_chn, rd_vbo, sl_vbo, rd_ife, sl_ife, rd_tup, sl_tup, rd_lst, sl_lst, rd_sub, sl_sub, rd_sli, sl_sli, rd_rev, sl_rev, rd_isi, sl_isi, rd_fn, sl_fn, rd_met, sl_met, rd_call, sl_call, rd_comp, sl_comp, RG.start, T.chk, T.bind, outV, getR, getV, cmpOp, binOp, isiOp, f_len, f_abs, f_sum, f_all, f_tuple, f_sorted, f_repr, m_count, fnLen, fnAbs, fnTuple, asgT, asgT.asgL, wipeR, itOp, truth, plOf, small, RG.setP, frs, isFr, ownOf, getO, subOp, plainI, notOw, notOwA, augOp, enumOp, zipOp, intOf, sliOp, revOp]
end K63
end

section
set_option Elab.async false
set_option linter.all false
set_option maxRecDepth 100000
set_option maxHeartbeats 4000000
namespace K63
open PySem RG
def upN (ys : List Int) (l : Int) : List Nat := (List.range ys.length).filter fun k => decide (l ≤ ys.getD k 0)
def ups (ys : List Int) (l : Int) : List Int := (upN ys l).map fun (k : Nat) => (k : Int)
theorem ups_mem {ys : List Int} {l x : Int} (h : x ∈ ups ys l) : 0 ≤ x ∧ x ≤ (ys.length : Int) - 1 := by
  obtain ⟨k, hk, rfl⟩ := List.mem_map.mp h
  have := List.mem_range.mp (List.mem_filter.mp hk).1
  omega
theorem ups_len (ys : List Int) (l : Int) : (ups ys l).length ≤ ys.length := by
  unfold ups upN
  rw [List.length_map]
  exact Nat.le_trans (List.length_filter_le _ _) (by rw [List.length_range]; exact Nat.le_refl _)
theorem ups_lt (ys : List Int) (l : Int) : (ups ys l).Pairwise (· < ·) := by
  unfold ups upN
  rw [List.pairwise_map]
  exact (List.pairwise_lt_range.filter _).imp fun h => by omega
theorem s_accept_level (n : Nat) {ys : List Int} {l : Int} (h : OKY ys) (hl : 0 ≤ l ∧ l ≤ 1000000000000) : callF tab (n + 4) "accept_level" [.va (yrs ys), .va (.int l), .va (.int ((ups ys l).length : Nat)), .va (.tuple (iL (ups ys l)))] = .ret .none := by
  have hn := h.2.1
  have hz := ups_len ys l
  rw [u_accept_level, go_def rfl]
  unfold F_accept_level F_accept_level_b
  refine (go_exe (d := .none) (by simp [runF, ex, ev, evT, evB, evV, evA, evC, evO, evI, getS, retV, rd_v, sl_v, rd_non, sl_non, rd_int, sl_int, rd_bl, sl_bl, rd_str, sl_str, rd_glob, sl_glob, rd_neg, sl_neg, rd_vnot, sl_vnot, rd_bin, sl_bin, rd_cmp, sl_cmp, rd_isN, sl_isN, rd_notN, sl_notN, rd_chn, sl_chn, rd_vbo, sl_vbo, rd_ife, sl_ife, rd_tup, sl_tup, rd_lst, sl_lst, rd_sub, sl_sub, rd_sli, sl_sli, rd_rev, sl_rev, rd_isi, sl_isi, rd_fn, sl_fn, rd_met, sl_met, rd_call, sl_call, rd_comp, sl_comp, RG.start, T.chk, T.bind, outV, getR, getV, cmpOp, binOp, isiOp, f_len, f_abs, f_sum, f_all, f_tuple, f_sorted, f_repr, m_count, fnLen, fnAbs, fnTuple, asgT, asgT.asgL, wipeR, itOp, truth, plOf, small, RG.setP, frs, isFr, ownOf, getO, subOp, plainI, notOw, notOwA, augOp, enumOp, zipOp, intOf, sliOp, revOp, s_check_years n h])).trans ?_
  refine (go_exe (d := .none) (by simp [runF, ex, ev, evT, evB, evV, evA, evC, evO, evI, getS, retV, rd_v, sl_v, rd_non, sl_non, rd_int, sl_int, rd_bl, sl_bl, rd_str, sl_str, rd_glob, sl_glob, rd_neg, sl_neg, rd_vnot, sl_vnot, rd_bin, sl_bin, rd_cmp, sl_cmp, rd_isN, sl_isN, rd_notN, sl_notN, rd_chn, sl_chn, rd_vbo, sl_vbo, rd_ife, sl_ife, rd_tup, sl_tup, rd_lst, sl_lst, rd_sub, sl_sub, rd_sli, sl_sli, rd_rev, sl_rev, rd_isi, sl_isi, rd_fn, sl_fn, rd_met, sl_met, rd_call, sl_call, rd_comp, sl_comp, RG.start, T.chk, T.bind, outV, getR, getV, cmpOp, binOp, isiOp, f_len, f_abs, f_sum, f_all, f_tuple, f_sorted, f_repr, m_count, fnLen, fnAbs, fnTuple, asgT, asgT.asgL, wipeR, itOp, truth, plOf, small, RG.setP, frs, isFr, ownOf, getO, subOp, plainI, notOw, notOwA, augOp, enumOp, zipOp, intOf, sliOp, revOp, s_check_level n hl])).trans ?_
  have c2 : ev (callF tab (n + 3)) C_accept_level_2 [.va (yrs ys), .va (.int l), .va (.int ((ups ys l).length : Nat)), .va (.tuple (iL (ups ys l))), .no, .no] = .ret (.list ((ups ys l).map fun _ => .bool true)) :=
    e_comp (ds := iL (ups ys l)) (by simp [runF, ex, ev, evT, evB, evV, evA, evC, evO, evI, getS, retV, rd_v, sl_v, rd_non, sl_non, rd_int, sl_int, rd_bl, sl_bl, rd_str, sl_str, rd_glob, sl_glob, rd_neg, sl_neg, rd_vnot, sl_vnot, rd_bin, sl_bin, rd_cmp, sl_cmp, rd_isN, sl_isN, rd_notN, sl_notN, rd_chn, sl_chn, rd_vbo, sl_vbo, rd_ife, sl_ife, rd_tup, sl_tup, rd_lst, sl_lst, rd_sub, sl_sub, rd_sli, sl_sli, rd_rev, sl_rev, rd_isi, sl_isi, rd_fn, sl_fn, rd_met, sl_met, rd_call, sl_call, rd_comp, sl_comp, RG.start, T.chk, T.bind, outV, getR, getV, cmpOp, binOp, isiOp, f_len, f_abs, f_sum, f_all, f_tuple, f_sorted, f_repr, m_count, fnLen, fnAbs, fnTuple, asgT, asgT.asgL, wipeR, itOp, truth, plOf, small, RG.setP, frs, isFr, ownOf, getO, subOp, plainI, notOw, notOwA, augOp, enumOp, zipOp, intOf, sliOp, revOp]) (lcG_over fun o ho => by
      have hb := ups_mem ho
      have b := s_is_between (n + 1) o 0 ((ys.length : Int) - 1)
      rw [decide_eq_true hb.1, decide_eq_true hb.2] at b
      simp [runF, ex, ev, evT, evB, evV, evA, evC, evO, evI, getS, retV, rd_v, sl_v, rd_non, sl_non, rd_int, sl_int, rd_bl, sl_bl, rd_str, sl_str, rd_glob, sl_glob, rd_neg, sl_neg, rd_vnot, sl_vnot, rd_bin, sl_bin, rd_cmp, sl_cmp, rd_isN, sl_isN, rd_notN, sl_notN, rd_chn, sl_chn, rd_vbo, sl_vbo, rd_ife, sl_ife, rd_tup, sl_tup, rd_lst, sl_lst, rd_sub, sl_sub, rd_sli, sl_sli, rd_rev, sl_rev, rd_isi, sl_isi, rd_fn, sl_fn, rd_met, sl_met, rd_call, sl_call, rd_comp, sl_comp, RG.start, T.chk, T.bind, outV, getR, getV, cmpOp, binOp, isiOp, f_len, f_abs, f_sum, f_all, f_tuple, f_sorted, f_repr, m_count, fnLen, fnAbs, fnTuple, asgT, asgT.asgL, wipeR, itOp, truth, plOf, small, RG.setP, frs, isFr, ownOf, getO, subOp, plainI, notOw, notOwA, augOp, enumOp, zipOp, intOf, sliOp, revOp, lcF, b])
  have c1 : ev (callF tab (n + 3)) C_accept_level_1 [.va (yrs ys), .va (.int l), .va (.int ((ups ys l).length : Nat)), .va (.tuple (iL (ups ys l))), .no, .no] = .ret (.list []) := by
    have e := rng0 (n := ((ups ys l).length : Int) - 1) (by omega) (by omega)
    have e0 : evI (callF tab (n + 3)) (.irng (.cons (.bin .Sub (.fn "len" (.cons (.v 3) .nil)) (.int 1)) .nil)) [.va (yrs ys), .va (.int l), .va (.int ((ups ys l).length : Nat)), .va (.tuple (iL (ups ys l))), .no, .no] = .ret ((List.range (((ups ys l).length : Int) - 1).toNat).map fun (i : Nat) => PyData.int (i : Int)) := by
      rw [← e]
      simp [runF, ex, ev, evT, evB, evV, evA, evC, evO, evI, getS, retV, rd_v, sl_v, rd_non, sl_non, rd_int, sl_int, rd_bl, sl_bl, rd_str, sl_str, rd_glob, sl_glob, rd_neg, sl_neg, rd_vnot, sl_vnot, rd_bin, sl_bin, rd_cmp, sl_cmp, rd_isN, sl_isN, rd_notN, sl_notN, rd_chn, sl_chn, rd_vbo, sl_vbo, rd_ife, sl_ife, rd_tup, sl_tup, rd_lst, sl_lst, rd_sub, sl_sub, rd_sli, sl_sli, rd_rev, sl_rev, rd_isi, sl_isi, rd_fn, sl_fn, rd_met, sl_met, rd_call, sl_call, rd_comp, sl_comp, RG.start, T.chk, T.bind, outV, getR, getV, cmpOp, binOp, isiOp, f_len, f_abs, f_sum, f_all, f_tuple, f_sorted, f_repr, m_count, fnLen, fnAbs, fnTuple, asgT, asgT.asgL, wipeR, itOp, truth, plOf, small, RG.setP, frs, isFr, ownOf, getO, subOp, plainI, notOw, notOwA, augOp, enumOp, zipOp, intOf, sliOp, revOp]
    have e1 := lcG_if (f := lcF (.v 5) (evT (callF tab (n + 3)) (.tcmp .GtE (.sub (.v 3) (.v 5)) (.sub (.v 3) (.bin .Add (.v 5) (.int 1))))) (ev (callF tab (n + 3)) (.int 1)) [5] [.va (yrs ys), .va (.int l), .va (.int ((ups ys l).length : Nat)), .va (.tuple (iL (ups ys l))), .no, .no])
      (m := fun i : Nat => PyData.int (i : Int)) (p := fun _ => false) (g := fun _ => PyData.int 1) (xs := List.range (((ups ys l).length : Int) - 1).toNat) (fun k hk => by
        have hk := List.mem_range.mp hk
        have hk1 : k + 1 < (ups ys l).length := by omega
        have g1 := at_of (i := (k : Int)) rfl (iL_get (List.getElem?_eq_getElem (l := ups ys l) (i := k) (by omega)))
        have g2 := at_of (i := (k : Int) + 1) (k := k + 1) (by omega) (iL_get (List.getElem?_eq_getElem (l := ups ys l) (i := k + 1) hk1))
        have lt := List.pairwise_iff_getElem.mp (ups_lt ys l) k (k + 1) (by omega) hk1 (by omega)
        generalize (ups ys l)[k] = a at *
        generalize (ups ys l)[k + 1] = b at *
        simp [runF, ex, ev, evT, evB, evV, evA, evC, evO, evI, getS, retV, rd_v, sl_v, rd_non, sl_non, rd_int, sl_int, rd_bl, sl_bl, rd_str, sl_str, rd_glob, sl_glob, rd_neg, sl_neg, rd_vnot, sl_vnot, rd_bin, sl_bin, rd_cmp, sl_cmp, rd_isN, sl_isN, rd_notN, sl_notN, rd_chn, sl_chn, rd_vbo, sl_vbo, rd_ife, sl_ife, rd_tup, sl_tup, rd_lst, sl_lst, rd_sub, sl_sub, rd_sli, sl_sli, rd_rev, sl_rev, rd_isi, sl_isi, rd_fn, sl_fn, rd_met, sl_met, rd_call, sl_call, rd_comp, sl_comp, RG.start, T.chk, T.bind, outV, getR, getV, cmpOp, binOp, isiOp, f_len, f_abs, f_sum, f_all, f_tuple, f_sorted, f_repr, m_count, fnLen, fnAbs, fnTuple, asgT, asgT.asgL, wipeR, itOp, truth, plOf, small, RG.setP, frs, isFr, ownOf, getO, subOp, plainI, notOw, notOwA, augOp, enumOp, zipOp, intOf, sliOp, revOp, lcF, g1, g2, lt])
    refine e_comp e0 (e1.trans ?_)
    rw [List.filter_eq_nil_iff.mpr (by simp)]
    rfl
  have c0 : ev (callF tab (n + 3)) C_accept_level_0 [.va (yrs ys), .va (.int l), .va (.int ((ups ys l).length : Nat)), .va (.tuple (iL (ups ys l))), .no, .no] = .ret (.list (iL (ups ys l))) := by
    have e0 : evI (callF tab (n + 3)) (.ienum (.cons (.v 0) .nil)) [.va (yrs ys), .va (.int l), .va (.int ((ups ys l).length : Nat)), .va (.tuple (iL (ups ys l))), .no, .no] = .ret ((List.range ys.length).map fun i => PyData.tuple [.int ((0 + i : Nat) : Int), .int (ys.getD i 0)]) := by
      rw [← enum_iL ys 0]
      simp [runF, ex, ev, evT, evB, evV, evA, evC, evO, evI, getS, retV, rd_v, sl_v, rd_non, sl_non, rd_int, sl_int, rd_bl, sl_bl, rd_str, sl_str, rd_glob, sl_glob, rd_neg, sl_neg, rd_vnot, sl_vnot, rd_bin, sl_bin, rd_cmp, sl_cmp, rd_isN, sl_isN, rd_notN, sl_notN, rd_chn, sl_chn, rd_vbo, sl_vbo, rd_ife, sl_ife, rd_tup, sl_tup, rd_lst, sl_lst, rd_sub, sl_sub, rd_sli, sl_sli, rd_rev, sl_rev, rd_isi, sl_isi, rd_fn, sl_fn, rd_met, sl_met, rd_call, sl_call, rd_comp, sl_comp, RG.start, T.chk, T.bind, outV, getR, getV, cmpOp, binOp, isiOp, f_len, f_abs, f_sum, f_all, f_tuple, f_sorted, f_repr, m_count, fnLen, fnAbs, fnTuple, asgT, asgT.asgL, wipeR, itOp, truth, plOf, small, RG.setP, frs, isFr, ownOf, getO, subOp, plainI, notOw, notOwA, augOp, enumOp, zipOp, intOf, sliOp, revOp]
    refine e_comp e0 ((lcG_if (p := fun k => decide (l ≤ ys.getD k 0)) (g := fun (k : Nat) => PyData.int (k : Int)) fun k _ => ?_).trans ?_)
    · generalize ys.getD k 0 = v
      simp [runF, ex, ev, evT, evB, evV, evA, evC, evO, evI, getS, retV, rd_v, sl_v, rd_non, sl_non, rd_int, sl_int, rd_bl, sl_bl, rd_str, sl_str, rd_glob, sl_glob, rd_neg, sl_neg, rd_vnot, sl_vnot, rd_bin, sl_bin, rd_cmp, sl_cmp, rd_isN, sl_isN, rd_notN, sl_notN, rd_chn, sl_chn, rd_vbo, sl_vbo, rd_ife, sl_ife, rd_tup, sl_tup, rd_lst, sl_lst, rd_sub, sl_sub, rd_sli, sl_sli, rd_rev, sl_rev, rd_isi, sl_isi, rd_fn, sl_fn, rd_met, sl_met, rd_call, sl_call, rd_comp, sl_comp, RG.start, T.chk, T.bind, outV, getR, getV, cmpOp, binOp, isiOp, f_len, f_abs, f_sum, f_all, f_tuple, f_sorted, f_repr, m_count, fnLen, fnAbs, fnTuple, asgT, asgT.asgL, wipeR, itOp, truth, plOf, small, RG.setP, frs, isFr, ownOf, getO, subOp, plainI, notOw, notOwA, augOp, enumOp, zipOp, intOf, sliOp, revOp, lcF]
      by_cases z : l ≤ v <;> simp [z, T.bind]
    · unfold ups upN iL
      rw [List.map_map]
      rfl
  have ha := fnAll_map ((ups ys l).map fun _ => true)
  rw [List.map_map] at ha
  have ha : fnAll [.list ((ups ys l).map fun _ => PyData.bool true)] = .ret (.bool true) := by
    refine ha.trans ?_
    congr 2
    rw [List.all_eq_true]
    intro b hb
    obtain ⟨_, _, rfl⟩ := List.mem_map.mp hb
    rfl
  refine (go_no (by simp [runF, ex, ev, evT, evB, evV, evA, evC, evO, evI, getS, retV, rd_v, sl_v, rd_non, sl_non, rd_int, sl_int, rd_bl, sl_bl, rd_str, sl_str, rd_glob, sl_glob, rd_neg, sl_neg, rd_vnot, sl_vnot, rd_bin, sl_bin, rd_cmp, sl_cmp, rd_isN, sl_isN, rd_notN, sl_notN, rd_chn, sl_chn, rd_vbo, sl_vbo, rd_ife, sl_ife, rd_tup, sl_tup, rd_lst, sl_lst, rd_sub, sl_sub, rd_sli, sl_sli, rd_rev, sl_rev, rd_isi, sl_isi, rd_fn, sl_fn, rd_met, sl_met, rd_call, sl_call, rd_comp, sl_comp, RG.start, T.chk, T.bind, outV, getR, getV, cmpOp, binOp, isiOp, f_len, f_abs, f_sum, f_all, f_tuple, f_sorted, f_repr, m_count, fnLen, fnAbs, fnTuple, asgT, asgT.asgL, wipeR, itOp, truth, plOf, small, RG.setP, frs, isFr, ownOf, getO, subOp, plainI, notOw, notOwA, augOp, enumOp, zipOp, intOf, sliOp, revOp, c2, rd_C_accept_level_2, ha])).trans ?_
  refine (go_no (by simp [runF, ex, ev, evT, evB, evV, evA, evC, evO, evI, getS, retV, rd_v, sl_v, rd_non, sl_non, rd_int, sl_int, rd_bl, sl_bl, rd_str, sl_str, rd_glob, sl_glob, rd_neg, sl_neg, rd_vnot, sl_vnot, rd_bin, sl_bin, rd_cmp, sl_cmp, rd_isN, sl_isN, rd_notN, sl_notN, rd_chn, sl_chn, rd_vbo, sl_vbo, rd_ife, sl_ife, rd_tup, sl_tup, rd_lst, sl_lst, rd_sub, sl_sub, rd_sli, sl_sli, rd_rev, sl_rev, rd_isi, sl_isi, rd_fn, sl_fn, rd_met, sl_met, rd_call, sl_call, rd_comp, sl_comp, RG.start, T.chk, T.bind, outV, getR, getV, cmpOp, binOp, isiOp, f_len, f_abs, f_sum, f_all, f_tuple, f_sorted, f_repr, m_count, fnLen, fnAbs, fnTuple, asgT, asgT.asgL, wipeR, itOp, truth, plOf, small, RG.setP, frs, isFr, ownOf, getO, subOp, plainI, notOw, notOwA, augOp, enumOp, zipOp, intOf, sliOp, revOp, s_is_integer, c1, rd_C_accept_level_1])).trans ?_
  have ok := okEq_sh (n := 1) (m := 1) (x := .tuple (iL (ups ys l))) (y := .tuple (iL (ups ys l))) (sh_tuple sh_iL) (sh_tuple sh_iL) (by decide) (by decide)
  have eqq : PyData.eqv (.tuple (iL (ups ys l))) (.tuple (iL (ups ys l))) = true := (eqv_iff (.tuple (iL (ups ys l))) (.tuple (iL (ups ys l))) (show nobL (iL (ups ys l)) = true from nobL_iL _) (show nobL (iL (ups ys l)) = true from nobL_iL _)).mpr rfl
  refine (go_no (by simp [runF, ex, ev, evT, evB, evV, evA, evC, evO, evI, getS, retV, rd_v, sl_v, rd_non, sl_non, rd_int, sl_int, rd_bl, sl_bl, rd_str, sl_str, rd_glob, sl_glob, rd_neg, sl_neg, rd_vnot, sl_vnot, rd_bin, sl_bin, rd_cmp, sl_cmp, rd_isN, sl_isN, rd_notN, sl_notN, rd_chn, sl_chn, rd_vbo, sl_vbo, rd_ife, sl_ife, rd_tup, sl_tup, rd_lst, sl_lst, rd_sub, sl_sub, rd_sli, sl_sli, rd_rev, sl_rev, rd_isi, sl_isi, rd_fn, sl_fn, rd_met, sl_met, rd_call, sl_call, rd_comp, sl_comp, RG.start, T.chk, T.bind, outV, getR, getV, cmpOp, binOp, isiOp, f_len, f_abs, f_sum, f_all, f_tuple, f_sorted, f_repr, m_count, fnLen, fnAbs, fnTuple, asgT, asgT.asgL, wipeR, itOp, truth, plOf, small, RG.setP, frs, isFr, ownOf, getO, subOp, plainI, notOw, notOwA, augOp, enumOp, zipOp, intOf, sliOp, revOp, c0, rd_C_accept_level_0, ok, eqq])).trans ?_
  have ok2 : okEq (.int ((ups ys l).length : Nat)) (.int ((ups ys l).length : Nat)) = true := rfl
  refine (go_no (by simp [runF, ex, ev, evT, evB, evV, evA, evC, evO, evI, getS, retV, rd_v, sl_v, rd_non, sl_non, rd_int, sl_int, rd_bl, sl_bl, rd_str, sl_str, rd_glob, sl_glob, rd_neg, sl_neg, rd_vnot, sl_vnot, rd_bin, sl_bin, rd_cmp, sl_cmp, rd_isN, sl_isN, rd_notN, sl_notN, rd_chn, sl_chn, rd_vbo, sl_vbo, rd_ife, sl_ife, rd_tup, sl_tup, rd_lst, sl_lst, rd_sub, sl_sub, rd_sli, sl_sli, rd_rev, sl_rev, rd_isi, sl_isi, rd_fn, sl_fn, rd_met, sl_met, rd_call, sl_call, rd_comp, sl_comp, RG.start, T.chk, T.bind, outV, getR, getV, cmpOp, binOp, isiOp, f_len, f_abs, f_sum, f_all, f_tuple, f_sorted, f_repr, m_count, fnLen, fnAbs, fnTuple, asgT, asgT.asgL, wipeR, itOp, truth, plOf, small, RG.setP, frs, isFr, ownOf, getO, subOp, plainI, notOw, notOwA, augOp, enumOp, zipOp, intOf, sliOp, revOp, ok2, PyData.eqv])).trans go_end
end K63
end

section
set_option Elab.async false
set_option linter.all false
set_option maxRecDepth 100000
set_option maxHeartbeats 4000000
namespace K63
open PySem RG
theorem cGE : ∀ (ys : List Int) (y : Int), (ys.filter fun o => decide (y ≤ o)).length = cG ys y + ys.count y
  | [], y => rfl
  | o :: ys, y => by
    have ih := cGE ys y
    unfold cG at ih ⊢
    rw [List.filter_cons, List.filter_cons, List.count_cons]
    by_cases h1 : y ≤ o
    · by_cases h2 : y < o
      · have h3 : ¬ o = y := by omega
        simp only [h1, h2, h3, decide_true, if_true, List.length_cons, beq_iff_eq, if_false]
        omega
      · have h3 : o = y := by omega
        simp only [h1, h2, h3, decide_true, decide_false, if_true, List.length_cons, beq_iff_eq]
        simp
        omega
    · have h2 : ¬ y < o := by omega
      have h3 : ¬ o = y := by omega
      simp only [h1, h2, h3, decide_false, beq_iff_eq]
      simp
      omega
theorem cLT : ∀ (ys : List Int) (y : Int), (ys.filter fun o => decide (o < y)).length + (cG ys y + ys.count y) = ys.length := by
  intro ys y
  rw [← cGE]
  induction ys with
  | nil => rfl
  | cons o ys ih =>
    rw [List.filter_cons, List.filter_cons]
    by_cases h1 : o < y
    · have h2 : ¬ y ≤ o := by omega
      simp only [h1, h2, decide_true, decide_false, if_true, List.length_cons]
      simp
      omega
    · have h2 : y ≤ o := by omega
      simp only [h1, h2, decide_true, decide_false, if_true, List.length_cons]
      simp
      omega
/-- raised in the same order -/
theorem rk_mono {f : Int → Int} {ys : List Int} (hf : ∀ x ∈ ys, ∀ y ∈ ys, (x < y ↔ f x < f y)) {y : Int} (hy : y ∈ ys) : rkD (ys.map f) (f y) = rkD ys y := by
  have e1 : cG (ys.map f) (f y) = cG ys y := by
    unfold cG
    rw [List.filter_map, List.length_map]
    congr 1
    refine List.filter_congr fun o ho => ?_
    show decide (f y < f o) = decide (y < o)
    rw [decide_eq_decide]
    exact (hf y hy o ho).symm
  have e2 : (ys.map f).count (f y) = ys.count y := by
    rw [List.count_eq_countP, List.count_eq_countP, List.countP_map]
    refine List.countP_congr fun o ho => ?_
    show ((f o == f y) = true ↔ (o == y) = true)
    rw [beq_iff_eq, beq_iff_eq]
    have h1 := hf y hy o ho
    have h2 := hf o ho y hy
    constructor
    · intro h
      rcases Int.lt_trichotomy o y with z | z | z
      · have := h2.mp z; omega
      · exact z
      · have := h1.mp z; omega
    · intro h; rw [h]
  unfold rkD
  rw [e1, e2]
theorem rk_rev (ys : List Int) (y : Int) : rkD ys.reverse y = rkD ys y := by
  have e1 : cG ys.reverse y = cG ys y := by
    unfold cG
    rw [List.filter_reverse, List.length_reverse]
  unfold rkD
  rw [e1, List.count_reverse]
theorem rk_above {ys : List Int} {y : Int} : rkD (ys.map fun o => 20 - o) (20 - y) = .tuple [.int ((ys.length : Int) + 1 - ((cG ys y : Int) + (ys.count y : Nat))), .int ((ys.length : Int) + 1 - ((cG ys y : Int) + 1))] := by
  have e1 : cG (ys.map fun o => 20 - o) (20 - y) = (ys.filter fun o => decide (o < y)).length := by
    unfold cG
    rw [List.filter_map, List.length_map]
    congr 1
    refine List.filter_congr fun o ho => ?_
    show decide (20 - y < 20 - o) = decide (o < y)
    rw [decide_eq_decide]
    omega
  have e2 : (ys.map fun o => 20 - o).count (20 - y) = ys.count y := by
    rw [List.count_eq_countP, List.count_eq_countP, List.countP_map]
    refine List.countP_congr fun o ho => ?_
    show ((20 - o == 20 - y) = true ↔ (o == y) = true)
    rw [beq_iff_eq, beq_iff_eq]
    omega
  have e3 := cLT ys y
  unfold rkD
  rw [e1, e2]
  have a1 : ((ys.filter fun o => decide (o < y)).length : Int) + 1 = (ys.length : Int) + 1 - ((cG ys y : Int) + (ys.count y : Nat)) := by omega
  have a2 : ((ys.filter fun o => decide (o < y)).length : Int) + (ys.count y : Nat) = (ys.length : Int) + 1 - ((cG ys y : Int) + 1) := by omega
  rw [a1, a2]
theorem getD_map {f : Int → Int} {ys : List Int} {k : Nat} (hk : k < ys.length) : (ys.map f).getD k 0 = f (ys.getD k 0) := by
  rw [List.getD_eq_getElem?_getD, List.getD_eq_getElem?_getD, List.getElem?_map, List.getElem?_eq_getElem hk]
  rfl
theorem getD_mem {ys : List Int} {k : Nat} (hk : k < ys.length) : ys.getD k 0 ∈ ys := by
  rw [List.getD_eq_getElem?_getD, List.getElem?_eq_getElem hk]
  exact List.getElem_mem _
theorem recs_mono {f : Int → Int} {ys : List Int} (hf : ∀ x ∈ ys, ∀ y ∈ ys, (x < y ↔ f x < f y)) : recs (ys.map f) = recs ys := by
  unfold recs
  rw [List.length_map]
  congr 1
  refine List.filter_congr fun k hk => ?_
  have hk := List.mem_range.mp hk
  unfold isRec
  rw [← List.map_take, List.all_map, getD_map hk, Bool.eq_iff_iff, List.all_eq_true, List.all_eq_true]
  refine forall_congr' fun o => ⟨fun h ho => ?_, fun h ho => ?_⟩
  · have := of_decide_eq_true (h ho)
    exact decide_eq_true ((hf o (List.mem_of_mem_take ho) _ (getD_mem hk)).mpr this)
  · have := of_decide_eq_true (h ho)
    exact decide_eq_true ((hf o (List.mem_of_mem_take ho) _ (getD_mem hk)).mp this)
theorem isRec_iff {ys : List Int} {k : Nat} : isRec ys k = decide (((ys.take k).filter fun o => decide (ys.getD k 0 ≤ o)) = []) := by
  unfold isRec
  rw [Bool.eq_iff_iff, List.all_eq_true, decide_eq_true_eq, List.filter_eq_nil_iff]
  refine forall_congr' fun o => forall_congr' fun ho => ?_
  rw [decide_eq_true_eq, decide_eq_true_eq]
  omega
theorem up_len {ys : List Int} {l : Int} : (ys.filter fun o => decide (l ≤ o)).length = (ups ys l).length := by
  unfold ups upN
  rw [List.length_map]
  have e : ys = (List.range ys.length).map fun k => ys.getD k 0 := by
    apply List.ext_getElem?
    intro i
    by_cases h : i < ys.length
    · rw [List.getElem?_map, List.getElem?_range h]
      simp [List.getD_eq_getElem?_getD, h]
    · rw [List.getElem?_eq_none (by omega), List.getElem?_eq_none (by rw [List.length_map, List.length_range]; omega)]
  have e2 : (ys.filter fun o => decide (l ≤ o)) = (((List.range ys.length).map fun k => ys.getD k 0).filter fun o => decide (l ≤ o)) := by rw [← e]
  rw [e2, List.filter_map, List.length_map]
  rfl
theorem mid_above {ys : List Int} (h : ys ≠ []) : midS (ys.map fun o => 20 - o) = 40 - midS ys := by
  have hl : 0 < ys.length := List.length_pos_iff.mpr h
  unfold midS
  rw [sortI_anti (f := fun o => 20 - o) (fun x _ y _ h => by omega), List.length_map]
  have hs := sortI_len ys
  have key : ∀ k, k < ys.length → ((sortI ys).map fun o => 20 - o).reverse.getD k 0 = 20 - (sortI ys).getD (ys.length - 1 - k) 0 := fun k hk => by
    rw [List.getD_eq_getElem?_getD, List.getElem?_reverse (by rw [List.length_map, hs]; exact hk), List.length_map, hs, List.getElem?_map, List.getElem?_eq_getElem (by rw [hs]; omega), List.getD_eq_getElem?_getD, List.getElem?_eq_getElem (by rw [hs]; omega)]
    rfl
  rw [key _ (by omega), key _ (by omega), show ys.length - 1 - (ys.length - 1) / 2 = ys.length / 2 by omega, show ys.length - 1 - ys.length / 2 = (ys.length - 1) / 2 by omega]
  omega
theorem mid_rev (ys : List Int) : midS ys.reverse = midS ys := by
  unfold midS
  rw [sortI_perm (List.reverse_perm ys), List.length_reverse]
end K63
end

section
set_option Elab.async false
set_option linter.all false
set_option maxRecDepth 100000
set_option maxHeartbeats 4000000
namespace K63
open PySem RG
abbrev rY (a1 a3 a4 a5 a8 a9 a10 a11 a14 a15 a16 a17 : Sl) : Rho := [.st, a1, .no, a3, a4, a5, .no, .no, a8, a9, a10, a11, .no, .no, a14, a15, a16, a17]
def fR (o : Int) : Int := o * o + 2
def fA (o : Int) : Int := 20 - o
def Yok (ys : List Int) : Prop := 1 ≤ ys.length ∧ ys.length ≤ 9 ∧ ∀ y ∈ ys, 0 ≤ y ∧ y < 9
theorem Yok.oky {ys : List Int} (h : Yok ys) : OKY ys := ⟨h.1, by have := h.2.1; omega, fun y hy => by have := h.2.2 y hy; omega⟩
theorem fR_le {o : Int} (h : 0 ≤ o ∧ o < 9) : 0 ≤ fR o ∧ fR o ≤ 100 := by
  obtain ⟨h1, h2⟩ := h
  unfold fR
  have h3 : o * o ≤ 8 * 8 := Int.mul_le_mul (by omega) (by omega) h1 (by decide)
  have h4 : 0 ≤ o * o := Int.mul_nonneg h1 h1
  omega
theorem fR_lt {x y : Int} (hx : 0 ≤ x) (hy : 0 ≤ y) : x < y ↔ fR x < fR y := by
  unfold fR
  constructor
  · intro h
    have : x * x < y * y := by
      have h1 : x * x ≤ x * y := Int.mul_le_mul_of_nonneg_left (by omega) hx
      have h2 : x * y < y * y := Int.mul_lt_mul_of_pos_right h (by omega)
      omega
    omega
  · intro h
    by_cases z : x < y
    · exact z
    · have h1 : y * y ≤ y * x := Int.mul_le_mul_of_nonneg_left (by omega) hy
      have h2 : y * x ≤ x * x := Int.mul_le_mul_of_nonneg_right (by omega) hx
      omega
theorem Yok.raised {ys : List Int} (h : Yok ys) : OKY (ys.map fR) := ⟨by rw [List.length_map]; exact h.1, by rw [List.length_map]; have := h.2.1; omega, fun y hy => by
  obtain ⟨o, ho, rfl⟩ := List.mem_map.mp hy
  have := fR_le (h.2.2 o ho)
  omega⟩
theorem Yok.above {ys : List Int} (h : Yok ys) : OKY (ys.map fA) := ⟨by rw [List.length_map]; exact h.1, by rw [List.length_map]; have := h.2.1; omega, fun y hy => by
  obtain ⟨o, ho, rfl⟩ := List.mem_map.mp hy
  have := h.2.2 o ho
  unfold fA
  omega⟩
theorem Yok.back {ys : List Int} (h : Yok ys) : OKY ys.reverse := ⟨by rw [List.length_reverse]; exact h.1, by rw [List.length_reverse]; have := h.2.1; omega, fun y hy => by
  have := h.2.2 y (List.mem_reverse.mp hy)
  omega⟩
theorem Yok.mono {ys : List Int} (h : Yok ys) : ∀ x ∈ ys, ∀ y ∈ ys, (x < y ↔ fR x < fR y) := fun x hx y hy => fR_lt (h.2.2 x hx).1 (h.2.2 y hy).1
abbrev rkT (ys : List Int) : PyData := .tuple (ys.map (rkD ys))
theorem rk_raised {ys : List Int} (h : Yok ys) : rkT (ys.map fR) = rkT ys := by
  unfold rkT
  rw [List.map_map]
  congr 1
  exact List.map_congr_left fun y hy => rk_mono h.mono hy
theorem rk_back (ys : List Int) : rkT ys.reverse = .tuple (ys.map (rkD ys)).reverse := by
  unfold rkT
  rw [← List.map_reverse]
  congr 1
  exact List.map_congr_left fun y hy => rk_rev ys y
theorem qt_turn : ((List.range 17).all fun s => decide (s ≤ 16 → Nat.gcd (40 - s) 2 = Nat.gcd (20 * (2 / Nat.gcd s 2) - s / Nat.gcd s 2) (2 / Nat.gcd s 2) * Nat.gcd s 2 ∧ 20 * (2 / Nat.gcd s 2) - s / Nat.gcd s 2 = (40 - s) / Nat.gcd s 2 ∧ (40 - s) / Nat.gcd s 2 / Nat.gcd (20 * (2 / Nat.gcd s 2) - s / Nat.gcd s 2) (2 / Nat.gcd s 2) = (40 - s) / Nat.gcd (40 - s) 2 ∧ 2 / Nat.gcd s 2 / Nat.gcd (20 * (2 / Nat.gcd s 2) - s / Nat.gcd s 2) (2 / Nat.gcd s 2) = 2 / Nat.gcd (40 - s) 2 ∧ s / Nat.gcd s 2 ≤ 20 * (2 / Nat.gcd s 2) ∧ 0 < 2 / Nat.gcd s 2 ∧ 2 / Nat.gcd s 2 ≤ 2)) = true := by decide +kernel
theorem sh_rkD {n : Nat} {ys : List Int} {y : Int} : sh (n + 1) (rkD ys y) := sh_tuple fun x hx => by
  rcases List.mem_cons.mp hx with z | z
  · rw [z]; exact sh_int
  · rw [List.mem_singleton.mp z]; exact sh_int
theorem sh_rkT {ys : List Int} : sh 2 (rkT ys) := sh_tuple fun x hx => by
  obtain ⟨y, _, rfl⟩ := List.mem_map.mp hx
  exact sh_rkD
theorem nob_rkT {ys : List Int} : nob (rkT ys) = true := by
  show nobL (ys.map (rkD ys)) = true
  refine nobL_iff.mpr fun x hx => ?_
  obtain ⟨y, _, rfl⟩ := List.mem_map.mp hx
  rfl
theorem rk_rkT {ys : List Int} (h : Yok ys) : rk 10000 64 (rkT ys) := by
  refine rk_tuple (M := 200) (n := 63) (fun x hx => ?_) (by rw [List.length_map]; have := h.2.1; omega)
  obtain ⟨y, _, rfl⟩ := List.mem_map.mp hx
  have h1 := cG_le ys y
  have h2 := List.count_le_length (a := y) (l := ys)
  have h3 := h.2.1
  refine rk_tuple (M := 66) (n := 62) (fun x hx => ?_) (show 2 * 68 + 3 ≤ 200 by decide)
  rcases List.mem_cons.mp hx with z | z
  · rw [z]; exact rk_small (by omega) (by decide)
  · rw [List.mem_singleton.mp z]; exact rk_small (by omega) (by decide)
theorem qt_facts {u d : Nat} (hu : u ≤ 1000) (hd : d ≤ 1000) : sh 1 (qt u d) ∧ nob (qt u d) = true ∧ rk 200 63 (qt u d) := by
  have h1 : u / Nat.gcd u d ≤ u := Nat.div_le_self _ _
  have h2 : d / Nat.gcd u d ≤ d := Nat.div_le_self _ _
  refine ⟨sh_tuple fun x hx => ?_, rfl, rk_tuple (M := 66) (n := 62) (fun x hx => ?_) (show 2 * 68 + 3 ≤ 200 by decide)⟩
  · rcases List.mem_cons.mp hx with z | z
    · rw [z]; exact sh_int
    · rw [List.mem_singleton.mp z]; exact sh_int
  · rcases List.mem_cons.mp hx with z | z
    · rw [z]; exact rk_small (by rw [Int.natAbs_natCast]; omega) (by decide)
    · rw [List.mem_singleton.mp z]; exact rk_small (by rw [Int.natAbs_natCast]; omega) (by decide)
end K63
end

section
set_option Elab.async false
set_option linter.all false
set_option maxRecDepth 100000
set_option maxHeartbeats 4000000
namespace K63
open PySem RG
section
variable {ys : List Int} {a2 a3 a4 a5 a6 a7 a8 a9 a10 a11 a12 a13 a14 a15 a16 a17 : Sl}
theorem yc9 (y : Int) : ev (callF tab 11) C_law_years_hold_9 [.st, .va (yrs ys), a2, a3, a4, a5, a6, .va (.int y), a8, a9, a10, a11, a12, a13, a14, a15, a16, a17] = .ret (.list (iL (ys.filter fun o => decide (y < o)))) :=
  e_comp (ds := iL ys) (by simp [runF, ex, ev, evT, evB, evV, evA, evC, evO, evI, getS, retV, rd_v, sl_v, rd_non, sl_non, rd_int, sl_int, rd_bl, sl_bl, rd_str, sl_str, rd_glob, sl_glob, rd_neg, sl_neg, rd_vnot, sl_vnot, rd_bin, sl_bin, rd_cmp, sl_cmp, rd_isN, sl_isN, rd_notN, sl_notN, rd_chn, sl_chn, rd_vbo, sl_vbo, rd_ife, sl_ife, rd_tup, sl_tup, rd_lst, sl_lst, rd_sub, sl_sub, rd_sli, sl_sli, rd_rev, sl_rev, rd_isi, sl_isi, rd_fn, sl_fn, rd_met, sl_met, rd_call, sl_call, rd_comp, sl_comp, RG.start, T.chk, T.bind, outV, getR, getV, cmpOp, binOp, isiOp, f_len, f_abs, f_sum, f_all, f_tuple, f_sorted, f_repr, m_count, fnLen, fnAbs, fnTuple, asgT, asgT.asgL, wipeR, itOp, truth, plOf, small, RG.setP, frs, isFr, ownOf, getO, subOp, plainI, notOw, notOwA, augOp, enumOp, zipOp, intOf, sliOp, revOp]) (lcG_if (p := fun o => decide (y < o)) (g := PyData.int) fun o _ => by
    simp [runF, ex, ev, evT, evB, evV, evA, evC, evO, evI, getS, retV, rd_v, sl_v, rd_non, sl_non, rd_int, sl_int, rd_bl, sl_bl, rd_str, sl_str, rd_glob, sl_glob, rd_neg, sl_neg, rd_vnot, sl_vnot, rd_bin, sl_bin, rd_cmp, sl_cmp, rd_isN, sl_isN, rd_notN, sl_notN, rd_chn, sl_chn, rd_vbo, sl_vbo, rd_ife, sl_ife, rd_tup, sl_tup, rd_lst, sl_lst, rd_sub, sl_sub, rd_sli, sl_sli, rd_rev, sl_rev, rd_isi, sl_isi, rd_fn, sl_fn, rd_met, sl_met, rd_call, sl_call, rd_comp, sl_comp, RG.start, T.chk, T.bind, outV, getR, getV, cmpOp, binOp, isiOp, f_len, f_abs, f_sum, f_all, f_tuple, f_sorted, f_repr, m_count, fnLen, fnAbs, fnTuple, asgT, asgT.asgL, wipeR, itOp, truth, plOf, small, RG.setP, frs, isFr, ownOf, getO, subOp, plainI, notOw, notOwA, augOp, enumOp, zipOp, intOf, sliOp, revOp, lcF]
    by_cases z : y < o <;> simp [z, T.bind])
theorem yc10 (y : Int) : ev (callF tab 11) C_law_years_hold_10 [.st, .va (yrs ys), a2, a3, a4, a5, a6, .va (.int y), a8, a9, a10, a11, a12, a13, a14, a15, a16, a17] = .ret (.list (iL (ys.filter fun o => decide (y ≤ o)))) :=
  e_comp (ds := iL ys) (by simp [runF, ex, ev, evT, evB, evV, evA, evC, evO, evI, getS, retV, rd_v, sl_v, rd_non, sl_non, rd_int, sl_int, rd_bl, sl_bl, rd_str, sl_str, rd_glob, sl_glob, rd_neg, sl_neg, rd_vnot, sl_vnot, rd_bin, sl_bin, rd_cmp, sl_cmp, rd_isN, sl_isN, rd_notN, sl_notN, rd_chn, sl_chn, rd_vbo, sl_vbo, rd_ife, sl_ife, rd_tup, sl_tup, rd_lst, sl_lst, rd_sub, sl_sub, rd_sli, sl_sli, rd_rev, sl_rev, rd_isi, sl_isi, rd_fn, sl_fn, rd_met, sl_met, rd_call, sl_call, rd_comp, sl_comp, RG.start, T.chk, T.bind, outV, getR, getV, cmpOp, binOp, isiOp, f_len, f_abs, f_sum, f_all, f_tuple, f_sorted, f_repr, m_count, fnLen, fnAbs, fnTuple, asgT, asgT.asgL, wipeR, itOp, truth, plOf, small, RG.setP, frs, isFr, ownOf, getO, subOp, plainI, notOw, notOwA, augOp, enumOp, zipOp, intOf, sliOp, revOp]) (lcG_if (p := fun o => decide (y ≤ o)) (g := PyData.int) fun o _ => by
    simp [runF, ex, ev, evT, evB, evV, evA, evC, evO, evI, getS, retV, rd_v, sl_v, rd_non, sl_non, rd_int, sl_int, rd_bl, sl_bl, rd_str, sl_str, rd_glob, sl_glob, rd_neg, sl_neg, rd_vnot, sl_vnot, rd_bin, sl_bin, rd_cmp, sl_cmp, rd_isN, sl_isN, rd_notN, sl_notN, rd_chn, sl_chn, rd_vbo, sl_vbo, rd_ife, sl_ife, rd_tup, sl_tup, rd_lst, sl_lst, rd_sub, sl_sub, rd_sli, sl_sli, rd_rev, sl_rev, rd_isi, sl_isi, rd_fn, sl_fn, rd_met, sl_met, rd_call, sl_call, rd_comp, sl_comp, RG.start, T.chk, T.bind, outV, getR, getV, cmpOp, binOp, isiOp, f_len, f_abs, f_sum, f_all, f_tuple, f_sorted, f_repr, m_count, fnLen, fnAbs, fnTuple, asgT, asgT.asgL, wipeR, itOp, truth, plOf, small, RG.setP, frs, isFr, ownOf, getO, subOp, plainI, notOw, notOwA, augOp, enumOp, zipOp, intOf, sliOp, revOp, lcF]
    by_cases z : y ≤ o <;> simp [z, T.bind])
theorem yc11 : ev (callF tab 11) C_law_years_hold_11 [.st, .va (yrs ys), a2, a3, a4, a5, a6, a7, a8, a9, a10, a11, a12, a13, a14, a15, a16, a17] = .ret (.list (ys.map (rkD ys))) :=
  e_comp (ds := iL ys) (by simp [runF, ex, ev, evT, evB, evV, evA, evC, evO, evI, getS, retV, rd_v, sl_v, rd_non, sl_non, rd_int, sl_int, rd_bl, sl_bl, rd_str, sl_str, rd_glob, sl_glob, rd_neg, sl_neg, rd_vnot, sl_vnot, rd_bin, sl_bin, rd_cmp, sl_cmp, rd_isN, sl_isN, rd_notN, sl_notN, rd_chn, sl_chn, rd_vbo, sl_vbo, rd_ife, sl_ife, rd_tup, sl_tup, rd_lst, sl_lst, rd_sub, sl_sub, rd_sli, sl_sli, rd_rev, sl_rev, rd_isi, sl_isi, rd_fn, sl_fn, rd_met, sl_met, rd_call, sl_call, rd_comp, sl_comp, RG.start, T.chk, T.bind, outV, getR, getV, cmpOp, binOp, isiOp, f_len, f_abs, f_sum, f_all, f_tuple, f_sorted, f_repr, m_count, fnLen, fnAbs, fnTuple, asgT, asgT.asgL, wipeR, itOp, truth, plOf, small, RG.setP, frs, isFr, ownOf, getO, subOp, plainI, notOw, notOwA, augOp, enumOp, zipOp, intOf, sliOp, revOp]) (lcG_over fun y _ => by
    have e1 : (((ys.filter fun o => decide (y ≤ o)).length : Nat) : Int) = (cG ys y : Int) + (ys.count y : Nat) := by rw [cGE]; exact Int.natCast_add _ _
    have e2 : (((ys.filter fun o => decide (y < o)).length : Nat) : Int) = (cG ys y : Int) := rfl
    simp [runF, ex, ev, evT, evB, evV, evA, evC, evO, evI, getS, retV, rd_v, sl_v, rd_non, sl_non, rd_int, sl_int, rd_bl, sl_bl, rd_str, sl_str, rd_glob, sl_glob, rd_neg, sl_neg, rd_vnot, sl_vnot, rd_bin, sl_bin, rd_cmp, sl_cmp, rd_isN, sl_isN, rd_notN, sl_notN, rd_chn, sl_chn, rd_vbo, sl_vbo, rd_ife, sl_ife, rd_tup, sl_tup, rd_lst, sl_lst, rd_sub, sl_sub, rd_sli, sl_sli, rd_rev, sl_rev, rd_isi, sl_isi, rd_fn, sl_fn, rd_met, sl_met, rd_call, sl_call, rd_comp, sl_comp, RG.start, T.chk, T.bind, outV, getR, getV, cmpOp, binOp, isiOp, f_len, f_abs, f_sum, f_all, f_tuple, f_sorted, f_repr, m_count, fnLen, fnAbs, fnTuple, asgT, asgT.asgL, wipeR, itOp, truth, plOf, small, RG.setP, frs, isFr, ownOf, getO, subOp, plainI, notOw, notOwA, augOp, enumOp, zipOp, intOf, sliOp, revOp, lcF, yc9, yc10, rd_C_law_years_hold_9, rd_C_law_years_hold_10, e1, e2, rkD])
theorem yc8 (h : Yok ys) : ev (callF tab 11) C_law_years_hold_8 [.st, .va (yrs ys), a2, .va (.int (ys.length : Nat)), a4, .va (rkT ys), a6, a7, a8, a9, a10, a11, a12, a13, a14, a15, a16, a17] = .ret (.list (ys.map fun y => qt (ys.length + 1) (cG ys y + ys.count y))) :=
  e_comp (ds := ys.map (rkD ys)) (by simp [runF, ex, ev, evT, evB, evV, evA, evC, evO, evI, getS, retV, rd_v, sl_v, rd_non, sl_non, rd_int, sl_int, rd_bl, sl_bl, rd_str, sl_str, rd_glob, sl_glob, rd_neg, sl_neg, rd_vnot, sl_vnot, rd_bin, sl_bin, rd_cmp, sl_cmp, rd_isN, sl_isN, rd_notN, sl_notN, rd_chn, sl_chn, rd_vbo, sl_vbo, rd_ife, sl_ife, rd_tup, sl_tup, rd_lst, sl_lst, rd_sub, sl_sub, rd_sli, sl_sli, rd_rev, sl_rev, rd_isi, sl_isi, rd_fn, sl_fn, rd_met, sl_met, rd_call, sl_call, rd_comp, sl_comp, RG.start, T.chk, T.bind, outV, getR, getV, cmpOp, binOp, isiOp, f_len, f_abs, f_sum, f_all, f_tuple, f_sorted, f_repr, m_count, fnLen, fnAbs, fnTuple, asgT, asgT.asgL, wipeR, itOp, truth, plOf, small, RG.setP, frs, isFr, ownOf, getO, subOp, plainI, notOw, notOwA, augOp, enumOp, zipOp, intOf, sliOp, revOp]) (lcG_over fun y _ => by
    have h1 := cG_le ys y
    have h2 := List.count_le_length (a := y) (l := ys)
    have h3 := h.2.1
    have q := s_law_quotient 9 (u := ys.length + 1) (d := cG ys y + ys.count y) (big_small (by omega)) (big_small (by omega)) (.inl (by omega))
    rw [Int.natCast_add, Int.natCast_add] at q
    have q : callF tab 11 "_law_quotient" [.va (.int ((ys.length : Int) + 1)), .va (.int ((cG ys y : Int) + (ys.count y : Nat)))] = .ret (qt (ys.length + 1) (cG ys y + ys.count y)) := q
    have g := at_of (xs := [PyData.int ((cG ys y : Int) + 1), .int ((cG ys y : Int) + (ys.count y : Nat))]) (i := 1) (k := 1) rfl rfl
    simp [runF, ex, ev, evT, evB, evV, evA, evC, evO, evI, getS, retV, rd_v, sl_v, rd_non, sl_non, rd_int, sl_int, rd_bl, sl_bl, rd_str, sl_str, rd_glob, sl_glob, rd_neg, sl_neg, rd_vnot, sl_vnot, rd_bin, sl_bin, rd_cmp, sl_cmp, rd_isN, sl_isN, rd_notN, sl_notN, rd_chn, sl_chn, rd_vbo, sl_vbo, rd_ife, sl_ife, rd_tup, sl_tup, rd_lst, sl_lst, rd_sub, sl_sub, rd_sli, sl_sli, rd_rev, sl_rev, rd_isi, sl_isi, rd_fn, sl_fn, rd_met, sl_met, rd_call, sl_call, rd_comp, sl_comp, RG.start, T.chk, T.bind, outV, getR, getV, cmpOp, binOp, isiOp, f_len, f_abs, f_sum, f_all, f_tuple, f_sorted, f_repr, m_count, fnLen, fnAbs, fnTuple, asgT, asgT.asgL, wipeR, itOp, truth, plOf, small, RG.setP, frs, isFr, ownOf, getO, subOp, plainI, notOw, notOwA, augOp, enumOp, zipOp, intOf, sliOp, revOp, lcF, rkD, q, g])
theorem yc6 {k : Nat} (hk : k < ys.length) (hl : ys.length ≤ 1000) : ev (callF tab 11) C_law_years_hold_6 [.st, .va (yrs ys), .va (.int (k : Int)), a3, a4, a5, a6, a7, a8, a9, a10, a11, a12, a13, a14, a15, a16, a17] = .ret (.list (iL ((ys.take k).filter fun o => decide (ys.getD k 0 ≤ o)))) := by
  have e : cutD (iL ys) none (some (k : Int)) = iL (ys.take k) := by
    have q := List.map_take (f := PyData.int) (l := ys) (i := k)
    unfold cutD
    have e1 : HT.sIx (iL ys).length 0 none = 0 := by simp [HT.sIx]
    have e2 : HT.sIx (iL ys).length (iL ys).length (some (k : Int)) = k := by
      simp [HT.sIx, show ¬ ((k : Int) < 0) by omega]
      omega
    rw [e1, e2, List.drop_zero, Nat.sub_zero]
    exact q.symm
  have hg : ys[k]? = some (ys.getD k 0) := by
    rw [List.getD_eq_getElem?_getD, List.getElem?_eq_getElem hk]
    rfl
  have g := at_of (i := (k : Int)) rfl (iL_get hg)
  refine e_comp (ds := iL (ys.take k)) (by simp [runF, ex, ev, evT, evB, evV, evA, evC, evO, evI, getS, retV, rd_v, sl_v, rd_non, sl_non, rd_int, sl_int, rd_bl, sl_bl, rd_str, sl_str, rd_glob, sl_glob, rd_neg, sl_neg, rd_vnot, sl_vnot, rd_bin, sl_bin, rd_cmp, sl_cmp, rd_isN, sl_isN, rd_notN, sl_notN, rd_chn, sl_chn, rd_vbo, sl_vbo, rd_ife, sl_ife, rd_tup, sl_tup, rd_lst, sl_lst, rd_sub, sl_sub, rd_sli, sl_sli, rd_rev, sl_rev, rd_isi, sl_isi, rd_fn, sl_fn, rd_met, sl_met, rd_call, sl_call, rd_comp, sl_comp, RG.start, T.chk, T.bind, outV, getR, getV, cmpOp, binOp, isiOp, f_len, f_abs, f_sum, f_all, f_tuple, f_sorted, f_repr, m_count, fnLen, fnAbs, fnTuple, asgT, asgT.asgL, wipeR, itOp, truth, plOf, small, RG.setP, frs, isFr, ownOf, getO, subOp, plainI, notOw, notOwA, augOp, enumOp, zipOp, intOf, sliOp, revOp, e]) (lcG_if (p := fun o => decide (ys.getD k 0 ≤ o)) (g := PyData.int) fun o _ => ?_)
  generalize ys.getD k 0 = v at *
  simp [runF, ex, ev, evT, evB, evV, evA, evC, evO, evI, getS, retV, rd_v, sl_v, rd_non, sl_non, rd_int, sl_int, rd_bl, sl_bl, rd_str, sl_str, rd_glob, sl_glob, rd_neg, sl_neg, rd_vnot, sl_vnot, rd_bin, sl_bin, rd_cmp, sl_cmp, rd_isN, sl_isN, rd_notN, sl_notN, rd_chn, sl_chn, rd_vbo, sl_vbo, rd_ife, sl_ife, rd_tup, sl_tup, rd_lst, sl_lst, rd_sub, sl_sub, rd_sli, sl_sli, rd_rev, sl_rev, rd_isi, sl_isi, rd_fn, sl_fn, rd_met, sl_met, rd_call, sl_call, rd_comp, sl_comp, RG.start, T.chk, T.bind, outV, getR, getV, cmpOp, binOp, isiOp, f_len, f_abs, f_sum, f_all, f_tuple, f_sorted, f_repr, m_count, fnLen, fnAbs, fnTuple, asgT, asgT.asgL, wipeR, itOp, truth, plOf, small, RG.setP, frs, isFr, ownOf, getO, subOp, plainI, notOw, notOwA, augOp, enumOp, zipOp, intOf, sliOp, revOp, lcF, g]
  by_cases z : v ≤ o <;> simp [z, T.bind]
theorem yc7 (h : Yok ys) : ev (callF tab 11) C_law_years_hold_7 [.st, .va (yrs ys), a2, .va (.int (ys.length : Nat)), a4, a5, a6, a7, a8, a9, a10, a11, a12, a13, a14, a15, a16, a17] = .ret (.list (iL (recs ys))) := by
  have hl := h.2.1
  have r := rng1 (n := ((ys.length : Nat) : Int)) rfl (by omega)
  refine e_comp (ds := (List.range ys.length).map fun (i : Nat) => PyData.int (i : Int)) (by simp [runF, ex, ev, evT, evB, evV, evA, evC, evO, evI, getS, retV, rd_v, sl_v, rd_non, sl_non, rd_int, sl_int, rd_bl, sl_bl, rd_str, sl_str, rd_glob, sl_glob, rd_neg, sl_neg, rd_vnot, sl_vnot, rd_bin, sl_bin, rd_cmp, sl_cmp, rd_isN, sl_isN, rd_notN, sl_notN, rd_chn, sl_chn, rd_vbo, sl_vbo, rd_ife, sl_ife, rd_tup, sl_tup, rd_lst, sl_lst, rd_sub, sl_sub, rd_sli, sl_sli, rd_rev, sl_rev, rd_isi, sl_isi, rd_fn, sl_fn, rd_met, sl_met, rd_call, sl_call, rd_comp, sl_comp, RG.start, T.chk, T.bind, outV, getR, getV, cmpOp, binOp, isiOp, f_len, f_abs, f_sum, f_all, f_tuple, f_sorted, f_repr, m_count, fnLen, fnAbs, fnTuple, asgT, asgT.asgL, wipeR, itOp, truth, plOf, small, RG.setP, frs, isFr, ownOf, getO, subOp, plainI, notOw, notOwA, augOp, enumOp, zipOp, intOf, sliOp, revOp, r]) ((lcG_if (p := isRec ys) (g := fun (k : Nat) => PyData.int (k : Int)) fun k hk => ?_).trans ?_)
  · have hk := List.mem_range.mp hk
    have c6 := fun (a3 a4 a5 a6 a7 a8 a9 a10 a11 a12 a13 a14 a15 a16 a17 : Sl) => yc6 (ys := ys) (a3 := a3) (a4 := a4) (a5 := a5) (a6 := a6) (a7 := a7) (a8 := a8) (a9 := a9) (a10 := a10) (a11 := a11) (a12 := a12) (a13 := a13) (a14 := a14) (a15 := a15) (a16 := a16) (a17 := a17) hk (by omega)
    have hr := isRec_iff (ys := ys) (k := k)
    generalize ((ys.take k).filter fun o => decide (ys.getD k 0 ≤ o)) = fs at *
    have ok := okEq_sh (n := 1) (m := 1) (x := .list (iL fs)) (y := .list []) (sh_list sh_iL) (sh_list fun x hx => absurd hx (by simp)) (by decide) (by decide)
    have eq1 : PyData.eqv (.list (iL fs)) (.list []) = isRec ys k := by
      rw [hr, Bool.eq_iff_iff, eqv_iff (.list (iL fs)) (.list []) (show nobL (iL fs) = true from nobL_iL _) rfl, decide_eq_true_eq]
      constructor
      · intro z
        cases fs with
        | nil => rfl
        | cons a r => cases z
      · intro z; rw [z]; rfl
    simp [runF, ex, ev, evT, evB, evV, evA, evC, evO, evI, getS, retV, rd_v, sl_v, rd_non, sl_non, rd_int, sl_int, rd_bl, sl_bl, rd_str, sl_str, rd_glob, sl_glob, rd_neg, sl_neg, rd_vnot, sl_vnot, rd_bin, sl_bin, rd_cmp, sl_cmp, rd_isN, sl_isN, rd_notN, sl_notN, rd_chn, sl_chn, rd_vbo, sl_vbo, rd_ife, sl_ife, rd_tup, sl_tup, rd_lst, sl_lst, rd_sub, sl_sub, rd_sli, sl_sli, rd_rev, sl_rev, rd_isi, sl_isi, rd_fn, sl_fn, rd_met, sl_met, rd_call, sl_call, rd_comp, sl_comp, RG.start, T.chk, T.bind, outV, getR, getV, cmpOp, binOp, isiOp, f_len, f_abs, f_sum, f_all, f_tuple, f_sorted, f_repr, m_count, fnLen, fnAbs, fnTuple, asgT, asgT.asgL, wipeR, itOp, truth, plOf, small, RG.setP, frs, isFr, ownOf, getO, subOp, plainI, notOw, notOwA, augOp, enumOp, zipOp, intOf, sliOp, revOp, lcF, c6, rd_C_law_years_hold_6, ok, eq1]
    cases isRec ys k <;> simp [T.bind]
  · unfold recs iL
    rw [List.map_map]
    rfl
end
end K63
end

section
set_option Elab.async false
set_option linter.all false
set_option maxRecDepth 100000
set_option maxHeartbeats 4000000
namespace K63
open PySem RG
section
variable {ys : List Int} {a1 a2 a3 a4 a5 a6 a7 a8 a9 a10 a11 a12 a13 a14 a15 a16 a17 : Sl}
theorem iL_map {f : Int → Int} (ys : List Int) : iL (ys.map f) = ys.map fun y => PyData.int (f y) := by
  unfold iL
  rw [List.map_map]
  rfl
theorem yc4 (h : Yok ys) : ev (callF tab 11) C_law_years_hold_4 [.st, .va (yrs ys), a2, a3, a4, a5, a6, a7, a8, a9, a10, a11, a12, a13, a14, a15, a16, a17] = .ret (.list (iL (ys.map fR))) := by
  rw [iL_map]
  refine e_comp (ds := iL ys) (by simp [runF, ex, ev, evT, evB, evV, evA, evC, evO, evI, getS, retV, rd_v, sl_v, rd_non, sl_non, rd_int, sl_int, rd_bl, sl_bl, rd_str, sl_str, rd_glob, sl_glob, rd_neg, sl_neg, rd_vnot, sl_vnot, rd_bin, sl_bin, rd_cmp, sl_cmp, rd_isN, sl_isN, rd_notN, sl_notN, rd_chn, sl_chn, rd_vbo, sl_vbo, rd_ife, sl_ife, rd_tup, sl_tup, rd_lst, sl_lst, rd_sub, sl_sub, rd_sli, sl_sli, rd_rev, sl_rev, rd_isi, sl_isi, rd_fn, sl_fn, rd_met, sl_met, rd_call, sl_call, rd_comp, sl_comp, RG.start, T.chk, T.bind, outV, getR, getV, cmpOp, binOp, isiOp, f_len, f_abs, f_sum, f_all, f_tuple, f_sorted, f_repr, m_count, fnLen, fnAbs, fnTuple, asgT, asgT.asgL, wipeR, itOp, truth, plOf, small, RG.setP, frs, isFr, ownOf, getO, subOp, plainI, notOw, notOwA, augOp, enumOp, zipOp, intOf, sliOp, revOp]) (lcG_over fun y hy => ?_)
  have h1 := h.2.2 y hy
  have m := mulOk_l (i := y) (j := y) (by omega)
  simp [runF, ex, ev, evT, evB, evV, evA, evC, evO, evI, getS, retV, rd_v, sl_v, rd_non, sl_non, rd_int, sl_int, rd_bl, sl_bl, rd_str, sl_str, rd_glob, sl_glob, rd_neg, sl_neg, rd_vnot, sl_vnot, rd_bin, sl_bin, rd_cmp, sl_cmp, rd_isN, sl_isN, rd_notN, sl_notN, rd_chn, sl_chn, rd_vbo, sl_vbo, rd_ife, sl_ife, rd_tup, sl_tup, rd_lst, sl_lst, rd_sub, sl_sub, rd_sli, sl_sli, rd_rev, sl_rev, rd_isi, sl_isi, rd_fn, sl_fn, rd_met, sl_met, rd_call, sl_call, rd_comp, sl_comp, RG.start, T.chk, T.bind, outV, getR, getV, cmpOp, binOp, isiOp, f_len, f_abs, f_sum, f_all, f_tuple, f_sorted, f_repr, m_count, fnLen, fnAbs, fnTuple, asgT, asgT.asgL, wipeR, itOp, truth, plOf, small, RG.setP, frs, isFr, ownOf, getO, subOp, plainI, notOw, notOwA, augOp, enumOp, zipOp, intOf, sliOp, revOp, lcF, m, fR]
theorem yc5 (h : Yok ys) : ev (callF tab 11) C_law_years_hold_5 [.st, .va (yrs ys), a2, a3, a4, a5, a6, a7, a8, a9, a10, a11, a12, a13, a14, a15, a16, a17] = .ret (.list (iL (ys.map fA))) := by
  rw [iL_map]
  refine e_comp (ds := iL ys) (by simp [runF, ex, ev, evT, evB, evV, evA, evC, evO, evI, getS, retV, rd_v, sl_v, rd_non, sl_non, rd_int, sl_int, rd_bl, sl_bl, rd_str, sl_str, rd_glob, sl_glob, rd_neg, sl_neg, rd_vnot, sl_vnot, rd_bin, sl_bin, rd_cmp, sl_cmp, rd_isN, sl_isN, rd_notN, sl_notN, rd_chn, sl_chn, rd_vbo, sl_vbo, rd_ife, sl_ife, rd_tup, sl_tup, rd_lst, sl_lst, rd_sub, sl_sub, rd_sli, sl_sli, rd_rev, sl_rev, rd_isi, sl_isi, rd_fn, sl_fn, rd_met, sl_met, rd_call, sl_call, rd_comp, sl_comp, RG.start, T.chk, T.bind, outV, getR, getV, cmpOp, binOp, isiOp, f_len, f_abs, f_sum, f_all, f_tuple, f_sorted, f_repr, m_count, fnLen, fnAbs, fnTuple, asgT, asgT.asgL, wipeR, itOp, truth, plOf, small, RG.setP, frs, isFr, ownOf, getO, subOp, plainI, notOw, notOwA, augOp, enumOp, zipOp, intOf, sliOp, revOp]) (lcG_over fun y hy => ?_)
  simp [runF, ex, ev, evT, evB, evV, evA, evC, evO, evI, getS, retV, rd_v, sl_v, rd_non, sl_non, rd_int, sl_int, rd_bl, sl_bl, rd_str, sl_str, rd_glob, sl_glob, rd_neg, sl_neg, rd_vnot, sl_vnot, rd_bin, sl_bin, rd_cmp, sl_cmp, rd_isN, sl_isN, rd_notN, sl_notN, rd_chn, sl_chn, rd_vbo, sl_vbo, rd_ife, sl_ife, rd_tup, sl_tup, rd_lst, sl_lst, rd_sub, sl_sub, rd_sli, sl_sli, rd_rev, sl_rev, rd_isi, sl_isi, rd_fn, sl_fn, rd_met, sl_met, rd_call, sl_call, rd_comp, sl_comp, RG.start, T.chk, T.bind, outV, getR, getV, cmpOp, binOp, isiOp, f_len, f_abs, f_sum, f_all, f_tuple, f_sorted, f_repr, m_count, fnLen, fnAbs, fnTuple, asgT, asgT.asgL, wipeR, itOp, truth, plOf, small, RG.setP, frs, isFr, ownOf, getO, subOp, plainI, notOw, notOwA, augOp, enumOp, zipOp, intOf, sliOp, revOp, lcF, fA]
theorem yc3 (h : Yok ys) : ev (callF tab 11) C_law_years_hold_3 [.st, .va (yrs ys), a2, a3, a4, a5, a6, a7, a8, .va (yrs (ys.map fR)), a10, a11, a12, a13, a14, a15, a16, a17] = .ret (.list [.tuple (iL (recs ys)), .tuple (iL (recs ys))]) := by
  have q1 : callF tab 11 "record_years" [.va (yrs ys)] = .ret (.tuple (iL (recs ys))) := s_record_years 7 h.oky
  have q2 : callF tab 11 "record_years" [.va (yrs (ys.map fR))] = .ret (.tuple (iL (recs ys))) := by
    have := s_record_years 7 h.raised
    rw [recs_mono h.mono] at this
    exact this
  refine e_comp (ds := [yrs ys, yrs (ys.map fR)]) (by simp [runF, ex, ev, evT, evB, evV, evA, evC, evO, evI, getS, retV, rd_v, sl_v, rd_non, sl_non, rd_int, sl_int, rd_bl, sl_bl, rd_str, sl_str, rd_glob, sl_glob, rd_neg, sl_neg, rd_vnot, sl_vnot, rd_bin, sl_bin, rd_cmp, sl_cmp, rd_isN, sl_isN, rd_notN, sl_notN, rd_chn, sl_chn, rd_vbo, sl_vbo, rd_ife, sl_ife, rd_tup, sl_tup, rd_lst, sl_lst, rd_sub, sl_sub, rd_sli, sl_sli, rd_rev, sl_rev, rd_isi, sl_isi, rd_fn, sl_fn, rd_met, sl_met, rd_call, sl_call, rd_comp, sl_comp, RG.start, T.chk, T.bind, outV, getR, getV, cmpOp, binOp, isiOp, f_len, f_abs, f_sum, f_all, f_tuple, f_sorted, f_repr, m_count, fnLen, fnAbs, fnTuple, asgT, asgT.asgL, wipeR, itOp, truth, plOf, small, RG.setP, frs, isFr, ownOf, getO, subOp, plainI, notOw, notOwA, augOp, enumOp, zipOp, intOf, sliOp, revOp]) ?_
  refine (lcG_map (g := fun _ => .tuple (iL (recs ys))) fun d hd => ?_).trans rfl
  rcases List.mem_cons.mp hd with z | z
  · subst z
    simp [runF, ex, ev, evT, evB, evV, evA, evC, evO, evI, getS, retV, rd_v, sl_v, rd_non, sl_non, rd_int, sl_int, rd_bl, sl_bl, rd_str, sl_str, rd_glob, sl_glob, rd_neg, sl_neg, rd_vnot, sl_vnot, rd_bin, sl_bin, rd_cmp, sl_cmp, rd_isN, sl_isN, rd_notN, sl_notN, rd_chn, sl_chn, rd_vbo, sl_vbo, rd_ife, sl_ife, rd_tup, sl_tup, rd_lst, sl_lst, rd_sub, sl_sub, rd_sli, sl_sli, rd_rev, sl_rev, rd_isi, sl_isi, rd_fn, sl_fn, rd_met, sl_met, rd_call, sl_call, rd_comp, sl_comp, RG.start, T.chk, T.bind, outV, getR, getV, cmpOp, binOp, isiOp, f_len, f_abs, f_sum, f_all, f_tuple, f_sorted, f_repr, m_count, fnLen, fnAbs, fnTuple, asgT, asgT.asgL, wipeR, itOp, truth, plOf, small, RG.setP, frs, isFr, ownOf, getO, subOp, plainI, notOw, notOwA, augOp, enumOp, zipOp, intOf, sliOp, revOp, lcF, q1]
  · rw [List.mem_singleton.mp z]
    simp [runF, ex, ev, evT, evB, evV, evA, evC, evO, evI, getS, retV, rd_v, sl_v, rd_non, sl_non, rd_int, sl_int, rd_bl, sl_bl, rd_str, sl_str, rd_glob, sl_glob, rd_neg, sl_neg, rd_vnot, sl_vnot, rd_bin, sl_bin, rd_cmp, sl_cmp, rd_isN, sl_isN, rd_notN, sl_notN, rd_chn, sl_chn, rd_vbo, sl_vbo, rd_ife, sl_ife, rd_tup, sl_tup, rd_lst, sl_lst, rd_sub, sl_sub, rd_sli, sl_sli, rd_rev, sl_rev, rd_isi, sl_isi, rd_fn, sl_fn, rd_met, sl_met, rd_call, sl_call, rd_comp, sl_comp, RG.start, T.chk, T.bind, outV, getR, getV, cmpOp, binOp, isiOp, f_len, f_abs, f_sum, f_all, f_tuple, f_sorted, f_repr, m_count, fnLen, fnAbs, fnTuple, asgT, asgT.asgL, wipeR, itOp, truth, plOf, small, RG.setP, frs, isFr, ownOf, getO, subOp, plainI, notOw, notOwA, augOp, enumOp, zipOp, intOf, sliOp, revOp, lcF, q2]
theorem yc2 : ev (callF tab 11) C_law_years_hold_2 [.st, a1, a2, .va (.int (ys.length : Nat)), a4, .va (rkT ys), a6, a7, a8, a9, a10, a11, a12, a13, a14, a15, a16, a17] = .ret (.list ((ys.map fA).map (rkD (ys.map fA)))) := by
  rw [List.map_map]
  refine e_comp (ds := ys.map (rkD ys)) (by simp [runF, ex, ev, evT, evB, evV, evA, evC, evO, evI, getS, retV, rd_v, sl_v, rd_non, sl_non, rd_int, sl_int, rd_bl, sl_bl, rd_str, sl_str, rd_glob, sl_glob, rd_neg, sl_neg, rd_vnot, sl_vnot, rd_bin, sl_bin, rd_cmp, sl_cmp, rd_isN, sl_isN, rd_notN, sl_notN, rd_chn, sl_chn, rd_vbo, sl_vbo, rd_ife, sl_ife, rd_tup, sl_tup, rd_lst, sl_lst, rd_sub, sl_sub, rd_sli, sl_sli, rd_rev, sl_rev, rd_isi, sl_isi, rd_fn, sl_fn, rd_met, sl_met, rd_call, sl_call, rd_comp, sl_comp, RG.start, T.chk, T.bind, outV, getR, getV, cmpOp, binOp, isiOp, f_len, f_abs, f_sum, f_all, f_tuple, f_sorted, f_repr, m_count, fnLen, fnAbs, fnTuple, asgT, asgT.asgL, wipeR, itOp, truth, plOf, small, RG.setP, frs, isFr, ownOf, getO, subOp, plainI, notOw, notOwA, augOp, enumOp, zipOp, intOf, sliOp, revOp]) (lcG_over fun y _ => ?_)
  have e : (rkD (ys.map fA) ∘ fA) y = .tuple [.int ((ys.length : Int) + 1 - ((cG ys y : Int) + (ys.count y : Nat))), .int ((ys.length : Int) + 1 - ((cG ys y : Int) + 1))] := rk_above
  rw [e]
  simp [runF, ex, ev, evT, evB, evV, evA, evC, evO, evI, getS, retV, rd_v, sl_v, rd_non, sl_non, rd_int, sl_int, rd_bl, sl_bl, rd_str, sl_str, rd_glob, sl_glob, rd_neg, sl_neg, rd_vnot, sl_vnot, rd_bin, sl_bin, rd_cmp, sl_cmp, rd_isN, sl_isN, rd_notN, sl_notN, rd_chn, sl_chn, rd_vbo, sl_vbo, rd_ife, sl_ife, rd_tup, sl_tup, rd_lst, sl_lst, rd_sub, sl_sub, rd_sli, sl_sli, rd_rev, sl_rev, rd_isi, sl_isi, rd_fn, sl_fn, rd_met, sl_met, rd_call, sl_call, rd_comp, sl_comp, RG.start, T.chk, T.bind, outV, getR, getV, cmpOp, binOp, isiOp, f_len, f_abs, f_sum, f_all, f_tuple, f_sorted, f_repr, m_count, fnLen, fnAbs, fnTuple, asgT, asgT.asgL, wipeR, itOp, truth, plOf, small, RG.setP, frs, isFr, ownOf, getO, subOp, plainI, notOw, notOwA, augOp, enumOp, zipOp, intOf, sliOp, revOp, lcF, rkD]
theorem yc1 {l : Int} (h : Yok ys) : ev (callF tab 11) C_law_years_hold_1 [.st, .va (yrs ys), a2, .va (.int (ys.length : Nat)), a4, a5, a6, a7, a8, a9, a10, a11, a12, a13, a14, a15, .va (.int l), a17] = .ret (.list (iL (ups ys l))) := by
  have hl := h.2.1
  have r := rng1 (n := ((ys.length : Nat) : Int)) rfl (by omega)
  refine e_comp (ds := (List.range ys.length).map fun (i : Nat) => PyData.int (i : Int)) (by simp [runF, ex, ev, evT, evB, evV, evA, evC, evO, evI, getS, retV, rd_v, sl_v, rd_non, sl_non, rd_int, sl_int, rd_bl, sl_bl, rd_str, sl_str, rd_glob, sl_glob, rd_neg, sl_neg, rd_vnot, sl_vnot, rd_bin, sl_bin, rd_cmp, sl_cmp, rd_isN, sl_isN, rd_notN, sl_notN, rd_chn, sl_chn, rd_vbo, sl_vbo, rd_ife, sl_ife, rd_tup, sl_tup, rd_lst, sl_lst, rd_sub, sl_sub, rd_sli, sl_sli, rd_rev, sl_rev, rd_isi, sl_isi, rd_fn, sl_fn, rd_met, sl_met, rd_call, sl_call, rd_comp, sl_comp, RG.start, T.chk, T.bind, outV, getR, getV, cmpOp, binOp, isiOp, f_len, f_abs, f_sum, f_all, f_tuple, f_sorted, f_repr, m_count, fnLen, fnAbs, fnTuple, asgT, asgT.asgL, wipeR, itOp, truth, plOf, small, RG.setP, frs, isFr, ownOf, getO, subOp, plainI, notOw, notOwA, augOp, enumOp, zipOp, intOf, sliOp, revOp, r]) ((lcG_if (p := fun k => decide (l ≤ ys.getD k 0)) (g := fun (k : Nat) => PyData.int (k : Int)) fun k hk => ?_).trans ?_)
  · have hk := List.mem_range.mp hk
    have hg : ys[k]? = some (ys.getD k 0) := by
      rw [List.getD_eq_getElem?_getD, List.getElem?_eq_getElem hk]
      rfl
    have g := at_of (i := (k : Int)) rfl (iL_get hg)
    generalize ys.getD k 0 = v at *
    simp [runF, ex, ev, evT, evB, evV, evA, evC, evO, evI, getS, retV, rd_v, sl_v, rd_non, sl_non, rd_int, sl_int, rd_bl, sl_bl, rd_str, sl_str, rd_glob, sl_glob, rd_neg, sl_neg, rd_vnot, sl_vnot, rd_bin, sl_bin, rd_cmp, sl_cmp, rd_isN, sl_isN, rd_notN, sl_notN, rd_chn, sl_chn, rd_vbo, sl_vbo, rd_ife, sl_ife, rd_tup, sl_tup, rd_lst, sl_lst, rd_sub, sl_sub, rd_sli, sl_sli, rd_rev, sl_rev, rd_isi, sl_isi, rd_fn, sl_fn, rd_met, sl_met, rd_call, sl_call, rd_comp, sl_comp, RG.start, T.chk, T.bind, outV, getR, getV, cmpOp, binOp, isiOp, f_len, f_abs, f_sum, f_all, f_tuple, f_sorted, f_repr, m_count, fnLen, fnAbs, fnTuple, asgT, asgT.asgL, wipeR, itOp, truth, plOf, small, RG.setP, frs, isFr, ownOf, getO, subOp, plainI, notOw, notOwA, augOp, enumOp, zipOp, intOf, sliOp, revOp, lcF, g]
    by_cases z : l ≤ v <;> simp [z, T.bind]
  · unfold ups upN iL
    rw [List.map_map]
    rfl
theorem yc0 (h : Yok ys) : ev (callF tab 11) C_law_years_hold_0 [.st, .va (yrs ys), a2, .va (.int (ys.length : Nat)), .va (.list (iL (sortI ys))), a5, a6, a7, a8, .va (yrs (ys.map fR)), a10, a11, a12, a13, a14, a15, a16, a17] = .ret (.list []) := by
  have hl := h.2.1
  have r := rng2 (a := 1) (b := ((ys.length : Nat) : Int) + 1) (m := ys.length) (by omega) (by omega) (by omega)
  refine e_comp (ds := (List.range ys.length).map fun (i : Nat) => PyData.int (1 + (i : Int))) (by simp [runF, ex, ev, evT, evB, evV, evA, evC, evO, evI, getS, retV, rd_v, sl_v, rd_non, sl_non, rd_int, sl_int, rd_bl, sl_bl, rd_str, sl_str, rd_glob, sl_glob, rd_neg, sl_neg, rd_vnot, sl_vnot, rd_bin, sl_bin, rd_cmp, sl_cmp, rd_isN, sl_isN, rd_notN, sl_notN, rd_chn, sl_chn, rd_vbo, sl_vbo, rd_ife, sl_ife, rd_tup, sl_tup, rd_lst, sl_lst, rd_sub, sl_sub, rd_sli, sl_sli, rd_rev, sl_rev, rd_isi, sl_isi, rd_fn, sl_fn, rd_met, sl_met, rd_call, sl_call, rd_comp, sl_comp, RG.start, T.chk, T.bind, outV, getR, getV, cmpOp, binOp, isiOp, f_len, f_abs, f_sum, f_all, f_tuple, f_sorted, f_repr, m_count, fnLen, fnAbs, fnTuple, asgT, asgT.asgL, wipeR, itOp, truth, plOf, small, RG.setP, frs, isFr, ownOf, getO, subOp, plainI, notOw, notOwA, augOp, enumOp, zipOp, intOf, sliOp, revOp, r]) ((lcG_if (p := fun k => false) (g := fun (k : Nat) => PyData.int (k : Int)) fun k hk => ?_).trans ?_)
  · have hk := List.mem_range.mp hk
    have q1 : callF tab 11 "level_for" [.va (yrs ys), .va (.int (1 + (k : Int)))] = .ret (.int ((sortI ys).getD (ys.length - (k + 1)) 0)) := by
      have := s_level_for 7 (k := k + 1) h.oky (by omega) (by omega)
      rw [Int.natCast_add, Int.add_comm] at this
      exact this
    have q2 : callF tab 11 "level_for" [.va (yrs (ys.map fR)), .va (.int (1 + (k : Int)))] = .ret (.int (fR ((sortI ys).getD (ys.length - (k + 1)) 0))) := by
      have := s_level_for 7 (k := k + 1) h.raised (by omega) (by rw [List.length_map]; omega)
      rw [Int.natCast_add, Int.add_comm, List.length_map, sortI_map (fun x hx y hy hxy => ?_), getD_map (by rw [sortI_len]; omega)] at this
      · exact this
      · rcases Int.lt_or_eq_of_le hxy with z | z
        · have := (h.mono x hx y hy).mp z; omega
        · rw [z]; exact Int.le_refl _
    have g := at_of (i := ((ys.length : Nat) : Int) - (1 + (k : Int))) (k := ys.length - (k + 1)) (by omega) (iL_get (mid_get (ys := ys) (k := ys.length - (k + 1)) (by omega)))
    have hm := h.2.2 _ (sortI_mem.mp (List.mem_of_getElem? (mid_get (ys := ys) (k := ys.length - (k + 1)) (by omega))))
    have m := mulOk_l (i := (sortI ys).getD (ys.length - (k + 1)) 0) (j := (sortI ys).getD (ys.length - (k + 1)) 0) (by omega)
    generalize (sortI ys).getD (ys.length - (k + 1)) 0 = v at *
    have ok : ∀ a b : Int, okEq (.int a) (.int b) = true := fun _ _ => rfl
    simp [runF, ex, ev, evT, evB, evV, evA, evC, evO, evI, getS, retV, rd_v, sl_v, rd_non, sl_non, rd_int, sl_int, rd_bl, sl_bl, rd_str, sl_str, rd_glob, sl_glob, rd_neg, sl_neg, rd_vnot, sl_vnot, rd_bin, sl_bin, rd_cmp, sl_cmp, rd_isN, sl_isN, rd_notN, sl_notN, rd_chn, sl_chn, rd_vbo, sl_vbo, rd_ife, sl_ife, rd_tup, sl_tup, rd_lst, sl_lst, rd_sub, sl_sub, rd_sli, sl_sli, rd_rev, sl_rev, rd_isi, sl_isi, rd_fn, sl_fn, rd_met, sl_met, rd_call, sl_call, rd_comp, sl_comp, RG.start, T.chk, T.bind, outV, getR, getV, cmpOp, binOp, isiOp, f_len, f_abs, f_sum, f_all, f_tuple, f_sorted, f_repr, m_count, fnLen, fnAbs, fnTuple, asgT, asgT.asgL, wipeR, itOp, truth, plOf, small, RG.setP, frs, isFr, ownOf, getO, subOp, plainI, notOw, notOwA, augOp, enumOp, zipOp, intOf, sliOp, revOp, lcF, q1, q2, g, m, ok, PyData.eqv, fR]
  · rw [List.filter_eq_nil_iff.mpr (by simp)]
    rfl
end
end K63
end

section
set_option Elab.async false
set_option linter.all false
set_option maxRecDepth 100000
set_option maxHeartbeats 400000
namespace K63
open PySem RG
def tailS : Sx → Sx
  | .cons _ r => r
  | s => s
theorem midS_bd {ys : List Int} (h : Yok ys) : 0 ≤ midS ys ∧ midS ys ≤ 16 := by
  have h1 := h.1
  have a := h.2.2 _ (sortI_mem.mp (List.mem_of_getElem? (mid_get (ys := ys) (k := (ys.length - 1) / 2) (by omega))))
  have b := h.2.2 _ (sortI_mem.mp (List.mem_of_getElem? (mid_get (ys := ys) (k := ys.length / 2) (by omega))))
  unfold midS
  omega
/-- behind the years -/
theorem years_tail {ys : List Int} (h : Yok ys) {k : Nat} (hk : 0 < k) : W (callF tab 11) (tailS F_law_years_hold_b) [.st, .va (yrs ys), .no, .no, .no, .no, .no, .no, .no, .no, .no, .no, .no, .no, .no, .no, .no, .no] k fun d k' => d = .bool true ∧ k - 1 ≤ k' := by
  have hl := h.2.1
  have hl1 := h.1
  have hne : ys ≠ [] := fun z => by rw [z] at hl1; exact absurd hl1 (by decide)
  unfold F_law_years_hold_b tailS
  -- many, rows
  refine W_asgP (xs := [.va (.int (ys.length : Nat)), .va (.list (iL (sortI ys)))]) (ρ2 := [.st, .va (yrs ys), .no, .va (.int (ys.length : Nat)), .va (.list (iL (sortI ys))), .no, .no, .no, .no, .no, .no, .no, .no, .no, .no, .no, .no, .no]) (by simp [runF, ex, ev, evT, evB, evV, evA, evC, evO, evI, getS, retV, rd_v, sl_v, rd_non, sl_non, rd_int, sl_int, rd_bl, sl_bl, rd_str, sl_str, rd_glob, sl_glob, rd_neg, sl_neg, rd_vnot, sl_vnot, rd_bin, sl_bin, rd_cmp, sl_cmp, rd_isN, sl_isN, rd_notN, sl_notN, rd_chn, sl_chn, rd_vbo, sl_vbo, rd_ife, sl_ife, rd_tup, sl_tup, rd_lst, sl_lst, rd_sub, sl_sub, rd_sli, sl_sli, rd_rev, sl_rev, rd_isi, sl_isi, rd_fn, sl_fn, rd_met, sl_met, rd_call, sl_call, rd_comp, sl_comp, RG.start, T.chk, T.bind, outV, getR, getV, cmpOp, binOp, isiOp, f_len, f_abs, f_sum, f_all, f_tuple, f_sorted, f_repr, m_count, fnLen, fnAbs, fnTuple, asgT, asgT.asgL, wipeR, itOp, truth, plOf, small, RG.setP, frs, isFr, ownOf, getO, subOp, plainI, notOw, notOwA, augOp, enumOp, zipOp, intOf, sliOp, revOp, fnSorted_T]) (by simp [runF, ex, ev, evT, evB, evV, evA, evC, evO, evI, getS, retV, rd_v, sl_v, rd_non, sl_non, rd_int, sl_int, rd_bl, sl_bl, rd_str, sl_str, rd_glob, sl_glob, rd_neg, sl_neg, rd_vnot, sl_vnot, rd_bin, sl_bin, rd_cmp, sl_cmp, rd_isN, sl_isN, rd_notN, sl_notN, rd_chn, sl_chn, rd_vbo, sl_vbo, rd_ife, sl_ife, rd_tup, sl_tup, rd_lst, sl_lst, rd_sub, sl_sub, rd_sli, sl_sli, rd_rev, sl_rev, rd_isi, sl_isi, rd_fn, sl_fn, rd_met, sl_met, rd_call, sl_call, rd_comp, sl_comp, RG.start, T.chk, T.bind, outV, getR, getV, cmpOp, binOp, isiOp, f_len, f_abs, f_sum, f_all, f_tuple, f_sorted, f_repr, m_count, fnLen, fnAbs, fnTuple, asgT, asgT.asgL, wipeR, itOp, truth, plOf, small, RG.setP, frs, isFr, ownOf, getO, subOp, plainI, notOw, notOwA, augOp, enumOp, zipOp, intOf, sliOp, revOp]) ?_
  -- ranks
  refine W_asg (d := rkT ys) (ρ2 := [.st, .va (yrs ys), .no, .va (.int (ys.length : Nat)), .va (.list (iL (sortI ys))), .va (rkT ys), .no, .no, .no, .no, .no, .no, .no, .no, .no, .no, .no, .no]) (by simp [runF, ex, ev, evT, evB, evV, evA, evC, evO, evI, getS, retV, rd_v, sl_v, rd_non, sl_non, rd_int, sl_int, rd_bl, sl_bl, rd_str, sl_str, rd_glob, sl_glob, rd_neg, sl_neg, rd_vnot, sl_vnot, rd_bin, sl_bin, rd_cmp, sl_cmp, rd_isN, sl_isN, rd_notN, sl_notN, rd_chn, sl_chn, rd_vbo, sl_vbo, rd_ife, sl_ife, rd_tup, sl_tup, rd_lst, sl_lst, rd_sub, sl_sub, rd_sli, sl_sli, rd_rev, sl_rev, rd_isi, sl_isi, rd_fn, sl_fn, rd_met, sl_met, rd_call, sl_call, rd_comp, sl_comp, RG.start, T.chk, T.bind, outV, getR, getV, cmpOp, binOp, isiOp, f_len, f_abs, f_sum, f_all, f_tuple, f_sorted, f_repr, m_count, fnLen, fnAbs, fnTuple, asgT, asgT.asgL, wipeR, itOp, truth, plOf, small, RG.setP, frs, isFr, ownOf, getO, subOp, plainI, notOw, notOwA, augOp, enumOp, zipOp, intOf, sliOp, revOp, yc11, rd_C_law_years_hold_11]) (by simp only [List.set]) ?_
  have r1 : callF tab 11 "ranks_of" [.va (yrs ys)] = .ret (rkT ys) := s_ranks_of 7 h.oky
  have r2 : callF tab 11 "returns_of" [.va (yrs ys)] = .ret (.tuple (ys.map fun y => qt (ys.length + 1) (cG ys y + ys.count y))) := s_returns_of 6 h.oky
  have r3 : callF tab 11 "_law_same" [.va (rkT ys), .va (rkT ys)] = .ret (.bool true) := s_law_same 10 (M := 10000) ⟨sh_rkT.1, Nat.le_trans sh_rkT.2 (by decide)⟩ nob_rkT (rk_rkT h) (by decide)
  have qf : ∀ x ∈ (ys.map fun y => qt (ys.length + 1) (cG ys y + ys.count y)), sh 1 x ∧ nob x = true ∧ rk 200 63 x := fun x hx => by
    obtain ⟨y, _, rfl⟩ := List.mem_map.mp hx
    have h1 := cG_le ys y
    have h2 := List.count_le_length (a := y) (l := ys)
    exact qt_facts (by omega) (by omega)
  have r4 : callF tab 11 "_law_same" [.va (.tuple (ys.map fun y => qt (ys.length + 1) (cG ys y + ys.count y))), .va (.tuple (ys.map fun y => qt (ys.length + 1) (cG ys y + ys.count y)))] = .ret (.bool true) :=
    s_law_same 10 (M := 10000) (sh_tuple fun x hx => ⟨(qf x hx).1.1, Nat.le_trans (qf x hx).1.2 (by decide)⟩) (show nobL _ = true from nobL_iff.mpr fun x hx => (qf x hx).2.1) (rk_tuple (M := 200) (n := 63) (fun x hx => (qf x hx).2.2) (by rw [List.length_map]; omega)) (by decide)
  have c8 := yc8 (ys := ys) (a2 := .no) (a4 := .va (.list (iL (sortI ys)))) (a6 := .no) (a7 := .no) (a8 := .no) (a9 := .no) (a10 := .no) (a11 := .no) (a12 := .no) (a13 := .no) (a14 := .no) (a15 := .no) (a16 := .no) (a17 := .no) h
  refine W_no ?st4 ?_
  case st4 => simp [runF, ex, ev, evT, evB, evV, evA, evC, evO, evI, getS, retV, rd_v, sl_v, rd_non, sl_non, rd_int, sl_int, rd_bl, sl_bl, rd_str, sl_str, rd_glob, sl_glob, rd_neg, sl_neg, rd_vnot, sl_vnot, rd_bin, sl_bin, rd_cmp, sl_cmp, rd_isN, sl_isN, rd_notN, sl_notN, rd_chn, sl_chn, rd_vbo, sl_vbo, rd_ife, sl_ife, rd_tup, sl_tup, rd_lst, sl_lst, rd_sub, sl_sub, rd_sli, sl_sli, rd_rev, sl_rev, rd_isi, sl_isi, rd_fn, sl_fn, rd_met, sl_met, rd_call, sl_call, rd_comp, sl_comp, RG.start, T.chk, T.bind, outV, getR, getV, cmpOp, binOp, isiOp, f_len, f_abs, f_sum, f_all, f_tuple, f_sorted, f_repr, m_count, fnLen, fnAbs, fnTuple, asgT, asgT.asgL, wipeR, itOp, truth, plOf, small, RG.setP, frs, isFr, ownOf, getO, subOp, plainI, notOw, notOwA, augOp, enumOp, zipOp, intOf, sliOp, revOp, r1, r2, r3, r4, c8, rd_C_law_years_hold_8]
  -- records
  refine W_asg (d := .tuple (iL (recs ys))) (ρ2 := [.st, .va (yrs ys), .no, .va (.int (ys.length : Nat)), .va (.list (iL (sortI ys))), .va (rkT ys), .no, .no, .va (.tuple (iL (recs ys))), .no, .no, .no, .no, .no, .no, .no, .no, .no]) (by simp [runF, ex, ev, evT, evB, evV, evA, evC, evO, evI, getS, retV, rd_v, sl_v, rd_non, sl_non, rd_int, sl_int, rd_bl, sl_bl, rd_str, sl_str, rd_glob, sl_glob, rd_neg, sl_neg, rd_vnot, sl_vnot, rd_bin, sl_bin, rd_cmp, sl_cmp, rd_isN, sl_isN, rd_notN, sl_notN, rd_chn, sl_chn, rd_vbo, sl_vbo, rd_ife, sl_ife, rd_tup, sl_tup, rd_lst, sl_lst, rd_sub, sl_sub, rd_sli, sl_sli, rd_rev, sl_rev, rd_isi, sl_isi, rd_fn, sl_fn, rd_met, sl_met, rd_call, sl_call, rd_comp, sl_comp, RG.start, T.chk, T.bind, outV, getR, getV, cmpOp, binOp, isiOp, f_len, f_abs, f_sum, f_all, f_tuple, f_sorted, f_repr, m_count, fnLen, fnAbs, fnTuple, asgT, asgT.asgL, wipeR, itOp, truth, plOf, small, RG.setP, frs, isFr, ownOf, getO, subOp, plainI, notOw, notOwA, augOp, enumOp, zipOp, intOf, sliOp, revOp, yc7 h, rd_C_law_years_hold_7]) (by simp only [List.set]) ?_
  -- raised, above, back
  have eb : (iL ys).reverse = iL ys.reverse := List.map_reverse.symm
  refine W_asgP (xs := [.va (yrs (ys.map fR)), .va (yrs (ys.map fA)), .va (yrs ys.reverse)]) (ρ2 := [.st, .va (yrs ys), .no, .va (.int (ys.length : Nat)), .va (.list (iL (sortI ys))), .va (rkT ys), .no, .no, .va (.tuple (iL (recs ys))), .va (yrs (ys.map fR)), .va (yrs (ys.map fA)), .va (yrs ys.reverse), .no, .no, .no, .no, .no, .no]) (by simp [runF, ex, ev, evT, evB, evV, evA, evC, evO, evI, getS, retV, rd_v, sl_v, rd_non, sl_non, rd_int, sl_int, rd_bl, sl_bl, rd_str, sl_str, rd_glob, sl_glob, rd_neg, sl_neg, rd_vnot, sl_vnot, rd_bin, sl_bin, rd_cmp, sl_cmp, rd_isN, sl_isN, rd_notN, sl_notN, rd_chn, sl_chn, rd_vbo, sl_vbo, rd_ife, sl_ife, rd_tup, sl_tup, rd_lst, sl_lst, rd_sub, sl_sub, rd_sli, sl_sli, rd_rev, sl_rev, rd_isi, sl_isi, rd_fn, sl_fn, rd_met, sl_met, rd_call, sl_call, rd_comp, sl_comp, RG.start, T.chk, T.bind, outV, getR, getV, cmpOp, binOp, isiOp, f_len, f_abs, f_sum, f_all, f_tuple, f_sorted, f_repr, m_count, fnLen, fnAbs, fnTuple, asgT, asgT.asgL, wipeR, itOp, truth, plOf, small, RG.setP, frs, isFr, ownOf, getO, subOp, plainI, notOw, notOwA, augOp, enumOp, zipOp, intOf, sliOp, revOp, yc4 h, yc5 h, rd_C_law_years_hold_4, rd_C_law_years_hold_5]) (by simp [runF, ex, ev, evT, evB, evV, evA, evC, evO, evI, getS, retV, rd_v, sl_v, rd_non, sl_non, rd_int, sl_int, rd_bl, sl_bl, rd_str, sl_str, rd_glob, sl_glob, rd_neg, sl_neg, rd_vnot, sl_vnot, rd_bin, sl_bin, rd_cmp, sl_cmp, rd_isN, sl_isN, rd_notN, sl_notN, rd_chn, sl_chn, rd_vbo, sl_vbo, rd_ife, sl_ife, rd_tup, sl_tup, rd_lst, sl_lst, rd_sub, sl_sub, rd_sli, sl_sli, rd_rev, sl_rev, rd_isi, sl_isi, rd_fn, sl_fn, rd_met, sl_met, rd_call, sl_call, rd_comp, sl_comp, RG.start, T.chk, T.bind, outV, getR, getV, cmpOp, binOp, isiOp, f_len, f_abs, f_sum, f_all, f_tuple, f_sorted, f_repr, m_count, fnLen, fnAbs, fnTuple, asgT, asgT.asgL, wipeR, itOp, truth, plOf, small, RG.setP, frs, isFr, ownOf, getO, subOp, plainI, notOw, notOwA, augOp, enumOp, zipOp, intOf, sliOp, revOp]) ?_
  have r5 : callF tab 11 "ranks_of" [.va (yrs (ys.map fR))] = .ret (rkT ys) := (s_ranks_of 7 h.raised).trans (congrArg T.ret (rk_raised h))
  have r6 : callF tab 11 "ranks_of" [.va (yrs ys.reverse)] = .ret (.tuple (ys.map (rkD ys)).reverse) := (s_ranks_of 7 h.back).trans (congrArg T.ret (rk_back ys))
  have r7 : callF tab 11 "ranks_of" [.va (yrs (ys.map fA))] = .ret (rkT (ys.map fA)) := s_ranks_of 7 h.above
  have shR : ∀ zs : List Int, okEq (rkT zs) (rkT zs) = true := fun zs => okEq_sh sh_rkT sh_rkT (by decide) (by decide)
  have eqR : ∀ zs : List Int, PyData.eqv (rkT zs) (rkT zs) = true := fun zs => (eqv_iff (rkT zs) (rkT zs) nob_rkT nob_rkT).mpr rfl
  have okB : okEq (.tuple (ys.map (rkD ys)).reverse) (.tuple (ys.map (rkD ys)).reverse) = true := by rw [← rk_back]; exact shR _
  have eqB : PyData.eqv (.tuple (ys.map (rkD ys)).reverse) (.tuple (ys.map (rkD ys)).reverse) = true := by rw [← rk_back]; exact eqR _
  have shC : sh 2 (.list [.tuple (iL (recs ys)), .tuple (iL (recs ys))]) := sh_list fun x hx => by
    rcases List.mem_cons.mp hx with z | z
    · rw [z]; exact sh_tuple sh_iL
    · rw [List.mem_singleton.mp z]; exact sh_tuple sh_iL
  have nobC : nob (.list [.tuple (iL (recs ys)), .tuple (iL (recs ys))]) = true := by
    show (nobL (iL (recs ys)) && (nobL (iL (recs ys)) && true)) = true
    rw [nobL_iL]
    rfl
  have okC := okEq_sh shC shC (by decide) (by decide)
  have eqC := (eqv_iff _ _ nobC nobC).mpr rfl
  have eRep : rep [PyData.tuple (iL (recs ys))] 2 = [.tuple (iL (recs ys)), .tuple (iL (recs ys))] := rfl
  refine W_no (by simp [runF, ex, ev, evT, evB, evV, evA, evC, evO, evI, getS, retV, rd_v, sl_v, rd_non, sl_non, rd_int, sl_int, rd_bl, sl_bl, rd_str, sl_str, rd_glob, sl_glob, rd_neg, sl_neg, rd_vnot, sl_vnot, rd_bin, sl_bin, rd_cmp, sl_cmp, rd_isN, sl_isN, rd_notN, sl_notN, rd_chn, sl_chn, rd_vbo, sl_vbo, rd_ife, sl_ife, rd_tup, sl_tup, rd_lst, sl_lst, rd_sub, sl_sub, rd_sli, sl_sli, rd_rev, sl_rev, rd_isi, sl_isi, rd_fn, sl_fn, rd_met, sl_met, rd_call, sl_call, rd_comp, sl_comp, RG.start, T.chk, T.bind, outV, getR, getV, cmpOp, binOp, isiOp, f_len, f_abs, f_sum, f_all, f_tuple, f_sorted, f_repr, m_count, fnLen, fnAbs, fnTuple, asgT, asgT.asgL, wipeR, itOp, truth, plOf, small, RG.setP, frs, isFr, ownOf, getO, subOp, plainI, notOw, notOwA, augOp, enumOp, zipOp, intOf, sliOp, revOp, yc3 h, rd_C_law_years_hold_3, r5, r6, shR, eqR, okB, eqB, okC, eqC, eRep]) ?_
  refine W_no (by simp [runF, ex, ev, evT, evB, evV, evA, evC, evO, evI, getS, retV, rd_v, sl_v, rd_non, sl_non, rd_int, sl_int, rd_bl, sl_bl, rd_str, sl_str, rd_glob, sl_glob, rd_neg, sl_neg, rd_vnot, sl_vnot, rd_bin, sl_bin, rd_cmp, sl_cmp, rd_isN, sl_isN, rd_notN, sl_notN, rd_chn, sl_chn, rd_vbo, sl_vbo, rd_ife, sl_ife, rd_tup, sl_tup, rd_lst, sl_lst, rd_sub, sl_sub, rd_sli, sl_sli, rd_rev, sl_rev, rd_isi, sl_isi, rd_fn, sl_fn, rd_met, sl_met, rd_call, sl_call, rd_comp, sl_comp, RG.start, T.chk, T.bind, outV, getR, getV, cmpOp, binOp, isiOp, f_len, f_abs, f_sum, f_all, f_tuple, f_sorted, f_repr, m_count, fnLen, fnAbs, fnTuple, asgT, asgT.asgL, wipeR, itOp, truth, plOf, small, RG.setP, frs, isFr, ownOf, getO, subOp, plainI, notOw, notOwA, augOp, enumOp, zipOp, intOf, sliOp, revOp, yc2, rd_C_law_years_hold_2, r7, shR, eqR, -List.map_map]) ?_
  -- the middle
  have hmb := midS_bd h
  obtain ⟨s, hs⟩ : ∃ s : Nat, midS ys = (s : Int) := ⟨(midS ys).toNat, by omega⟩
  have hs16 : s ≤ 16 := by omega
  have hsn : (midS ys).toNat = s := by omega
  have d1 := divOk_lit (i := ((ys.length : Nat) : Int) - 1) (j := 2) (by decide) (by decide)
  have d2 := divOk_lit (i := ((ys.length : Nat) : Int)) (j := 2) (by decide) (by decide)
  have f1 : (((ys.length : Nat) : Int) - 1).fdiv 2 = (((ys.length - 1) / 2 : Nat) : Int) := by
    have e : ((ys.length : Nat) : Int) - 1 = ((ys.length - 1 : Nat) : Int) := by omega
    rw [e]
    exact fdiv_nat _ 2
  have f2 : ((ys.length : Nat) : Int).fdiv 2 = ((ys.length / 2 : Nat) : Int) := fdiv_nat ys.length 2
  have g1 := at_of (i := (((ys.length - 1) / 2 : Nat) : Int)) rfl (iL_get (mid_get (ys := ys) (k := (ys.length - 1) / 2) (by omega)))
  have g2 := at_of (i := ((ys.length / 2 : Nat) : Int)) rfl (iL_get (mid_get (ys := ys) (k := ys.length / 2) (by omega)))
  have gs : (sortI ys).getD ((ys.length - 1) / 2) 0 + (sortI ys).getD (ys.length / 2) 0 = (s : Int) := hs
  have lq : callF tab 11 "_law_quotient" [.va (.int (s : Int)), .va (.int 2)] = .ret (qt s 2) := s_law_quotient 9 (u := s) (d := 2) (big_small (by omega)) (big_small (by decide)) (.inr (by decide))
  have m1 : callF tab 11 "median_of" [.va (yrs ys)] = .ret (qt s 2) := (s_median_of 7 h.oky).trans (by rw [hsn])
  have m2 : callF tab 11 "median_of" [.va (yrs (ys.map fA))] = .ret (qt (40 - s) 2) := (s_median_of 7 h.above).trans (by
    have e := mid_above hne
    have e : midS (ys.map fA) = 40 - midS ys := e
    rw [e, hs, show (40 - (s : Int)).toNat = 40 - s by omega])
  have m3 : callF tab 11 "median_of" [.va (yrs ys.reverse)] = .ret (qt s 2) := (s_median_of 7 h.back).trans (by rw [mid_rev, hsn])
  have mid1 : ev (callF tab 11) (.call "_law_quotient" (.cons (.bin .Add (.sub (.v 4) (.bin .FloorDiv (.bin .Sub (.v 3) (.int 1)) (.int 2))) (.sub (.v 4) (.bin .FloorDiv (.v 3) (.int 2)))) (.cons (.int 2) .nil))) [.st, .va (yrs ys), .no, .va (.int (ys.length : Nat)), .va (.list (iL (sortI ys))), .va (rkT ys), .no, .no, .va (.tuple (iL (recs ys))), .va (yrs (ys.map fR)), .va (yrs (ys.map fA)), .va (yrs ys.reverse), .no, .no, .no, .no, .no, .no] = .ret (qt s 2) := by
    generalize (sortI ys).getD ((ys.length - 1) / 2) 0 = v1 at *
    generalize (sortI ys).getD (ys.length / 2) 0 = v2 at *
    generalize (((ys.length - 1) / 2 : Nat) : Int) = i1 at *
    generalize ((ys.length / 2 : Nat) : Int) = i2 at *
    simp [runF, ex, ev, evT, evB, evV, evA, evC, evO, evI, getS, retV, rd_v, sl_v, rd_non, sl_non, rd_int, sl_int, rd_bl, sl_bl, rd_str, sl_str, rd_glob, sl_glob, rd_neg, sl_neg, rd_vnot, sl_vnot, rd_bin, sl_bin, rd_cmp, sl_cmp, rd_isN, sl_isN, rd_notN, sl_notN, rd_chn, sl_chn, rd_vbo, sl_vbo, rd_ife, sl_ife, rd_tup, sl_tup, rd_lst, sl_lst, rd_sub, sl_sub, rd_sli, sl_sli, rd_rev, sl_rev, rd_isi, sl_isi, rd_fn, sl_fn, rd_met, sl_met, rd_call, sl_call, rd_comp, sl_comp, RG.start, T.chk, T.bind, outV, getR, getV, cmpOp, binOp, isiOp, f_len, f_abs, f_sum, f_all, f_tuple, f_sorted, f_repr, m_count, fnLen, fnAbs, fnTuple, asgT, asgT.asgL, wipeR, itOp, truth, plOf, small, RG.setP, frs, isFr, ownOf, getO, subOp, plainI, notOw, notOwA, augOp, enumOp, zipOp, intOf, sliOp, revOp, d1, d2, f1, f2, g1, g2, gs, lq]
  refine W_asg (d := qt s 2) (ρ2 := [.st, .va (yrs ys), .no, .va (.int (ys.length : Nat)), .va (.list (iL (sortI ys))), .va (rkT ys), .no, .no, .va (.tuple (iL (recs ys))), .va (yrs (ys.map fR)), .va (yrs (ys.map fA)), .va (yrs ys.reverse), .no, .no, .va (qt s 2), .no, .no, .no]) mid1 (by simp only [List.set]) ?_
  have tn := List.all_eq_true.mp qt_turn s (List.mem_range.mpr (by omega))
  obtain ⟨t1, t2, t3, t4, t5, t6, t7⟩ := of_decide_eq_true tn hs16
  have lq2 : callF tab 11 "_law_quotient" [.va (.int (20 * ((2 / Nat.gcd s 2 : Nat) : Int) - ((s / Nat.gcd s 2 : Nat) : Int))), .va (.int ((2 / Nat.gcd s 2 : Nat) : Int))] = .ret (qt (40 - s) 2) := by
    have q := s_law_quotient 9 (u := 20 * (2 / Nat.gcd s 2) - s / Nat.gcd s 2) (d := 2 / Nat.gcd s 2) (big_small (Nat.lt_of_le_of_lt (Nat.sub_le _ _) (Nat.lt_of_le_of_lt (Nat.mul_le_mul_left 20 t7) (by decide)))) (big_small (by omega)) (.inr t6)
    have e1 : ((20 * (2 / Nat.gcd s 2) - s / Nat.gcd s 2 : Nat) : Int) = 20 * ((2 / Nat.gcd s 2 : Nat) : Int) - ((s / Nat.gcd s 2 : Nat) : Int) := by
      rw [Int.natCast_sub t5, Int.natCast_mul]
      rfl
    have e2 : qt (20 * (2 / Nat.gcd s 2) - s / Nat.gcd s 2) (2 / Nat.gcd s 2) = qt (40 - s) 2 := by
      unfold qt
      rw [t4, ← t3, t2]
    rw [e1, e2] at q
    exact q
  have tm : mulOk 20 ((2 / Nat.gcd s 2 : Nat) : Int) = true := mulOk_l (by decide)
  have tr1 : ev (callF tab 11) (.call "_law_quotient" (.cons (.bin .Sub (.bin .Mult (.int 20) (.sub (.v 14) (.int 1))) (.sub (.v 14) (.int 0))) (.cons (.sub (.v 14) (.int 1)) .nil))) [.st, .va (yrs ys), .no, .va (.int (ys.length : Nat)), .va (.list (iL (sortI ys))), .va (rkT ys), .no, .no, .va (.tuple (iL (recs ys))), .va (yrs (ys.map fR)), .va (yrs (ys.map fA)), .va (yrs ys.reverse), .no, .no, .va (qt s 2), .no, .no, .no] = .ret (qt (40 - s) 2) := by
    have g0 := at_of (xs := [PyData.int ((s / Nat.gcd s 2 : Nat) : Int), .int ((2 / Nat.gcd s 2 : Nat) : Int)]) (i := 0) (k := 0) rfl rfl
    have g1 := at_of (xs := [PyData.int ((s / Nat.gcd s 2 : Nat) : Int), .int ((2 / Nat.gcd s 2 : Nat) : Int)]) (i := 1) (k := 1) rfl rfl
    generalize qt (40 - s) 2 = z at *
    unfold qt
    generalize ((s / Nat.gcd s 2 : Nat) : Int) = v0 at *
    generalize ((2 / Nat.gcd s 2 : Nat) : Int) = v1 at *
    simp [runF, ex, ev, evT, evB, evV, evA, evC, evO, evI, getS, retV, rd_v, sl_v, rd_non, sl_non, rd_int, sl_int, rd_bl, sl_bl, rd_str, sl_str, rd_glob, sl_glob, rd_neg, sl_neg, rd_vnot, sl_vnot, rd_bin, sl_bin, rd_cmp, sl_cmp, rd_isN, sl_isN, rd_notN, sl_notN, rd_chn, sl_chn, rd_vbo, sl_vbo, rd_ife, sl_ife, rd_tup, sl_tup, rd_lst, sl_lst, rd_sub, sl_sub, rd_sli, sl_sli, rd_rev, sl_rev, rd_isi, sl_isi, rd_fn, sl_fn, rd_met, sl_met, rd_call, sl_call, rd_comp, sl_comp, RG.start, T.chk, T.bind, outV, getR, getV, cmpOp, binOp, isiOp, f_len, f_abs, f_sum, f_all, f_tuple, f_sorted, f_repr, m_count, fnLen, fnAbs, fnTuple, asgT, asgT.asgL, wipeR, itOp, truth, plOf, small, RG.setP, frs, isFr, ownOf, getO, subOp, plainI, notOw, notOwA, augOp, enumOp, zipOp, intOf, sliOp, revOp, g0, g1, tm, lq2]
  refine W_asg (d := qt (40 - s) 2) (ρ2 := [.st, .va (yrs ys), .no, .va (.int (ys.length : Nat)), .va (.list (iL (sortI ys))), .va (rkT ys), .no, .no, .va (.tuple (iL (recs ys))), .va (yrs (ys.map fR)), .va (yrs (ys.map fA)), .va (yrs ys.reverse), .no, .no, .va (qt s 2), .va (qt (40 - s) 2), .no, .no]) tr1 (by simp only [List.set]) ?_
  have okQ : ∀ u, u ≤ 1000 → okEq (qt u 2) (qt u 2) = true := fun u hu => okEq_sh (qt_facts hu (by decide)).1 (qt_facts hu (by decide)).1 (by decide) (by decide)
  have eqQ : ∀ u, u ≤ 1000 → PyData.eqv (qt u 2) (qt u 2) = true := fun u hu => (eqv_iff (qt u 2) (qt u 2) (qt_facts hu (by decide)).2.1 (qt_facts hu (by decide)).2.1).mpr rfl
  have o1 := okQ s (by omega)
  have o2 := okQ (40 - s) (by omega)
  have q1 := eqQ s (by omega)
  have q2 := eqQ (40 - s) (by omega)
  refine W_no (by simp [runF, ex, ev, evT, evB, evV, evA, evC, evO, evI, getS, retV, rd_v, sl_v, rd_non, sl_non, rd_int, sl_int, rd_bl, sl_bl, rd_str, sl_str, rd_glob, sl_glob, rd_neg, sl_neg, rd_vnot, sl_vnot, rd_bin, sl_bin, rd_cmp, sl_cmp, rd_isN, sl_isN, rd_notN, sl_notN, rd_chn, sl_chn, rd_vbo, sl_vbo, rd_ife, sl_ife, rd_tup, sl_tup, rd_lst, sl_lst, rd_sub, sl_sub, rd_sli, sl_sli, rd_rev, sl_rev, rd_isi, sl_isi, rd_fn, sl_fn, rd_met, sl_met, rd_call, sl_call, rd_comp, sl_comp, RG.start, T.chk, T.bind, outV, getR, getV, cmpOp, binOp, isiOp, f_len, f_abs, f_sum, f_all, f_tuple, f_sorted, f_repr, m_count, fnLen, fnAbs, fnTuple, asgT, asgT.asgL, wipeR, itOp, truth, plOf, small, RG.setP, frs, isFr, ownOf, getO, subOp, plainI, notOw, notOwA, augOp, enumOp, zipOp, intOf, sliOp, revOp, m1, m2, m3, o1, o2, q1, q2]) ?_
  -- the level
  have ed : ev (callF tab 11) (.call "_law_draw" (.cons (.v 0) (.cons (.int 10) .nil))) [.st, .va (yrs ys), .no, .va (.int (ys.length : Nat)), .va (.list (iL (sortI ys))), .va (rkT ys), .no, .no, .va (.tuple (iL (recs ys))), .va (yrs (ys.map fR)), .va (yrs (ys.map fA)), .va (yrs ys.reverse), .no, .no, .va (qt s 2), .va (qt (40 - s) 2), .no, .no] = .draw 10 fun d => .ret (.int d) := by simp [runF, ex, ev, evT, evB, evV, evA, evC, evO, evI, getS, retV, rd_v, sl_v, rd_non, sl_non, rd_int, sl_int, rd_bl, sl_bl, rd_str, sl_str, rd_glob, sl_glob, rd_neg, sl_neg, rd_vnot, sl_vnot, rd_bin, sl_bin, rd_cmp, sl_cmp, rd_isN, sl_isN, rd_notN, sl_notN, rd_chn, sl_chn, rd_vbo, sl_vbo, rd_ife, sl_ife, rd_tup, sl_tup, rd_lst, sl_lst, rd_sub, sl_sub, rd_sli, sl_sli, rd_rev, sl_rev, rd_isi, sl_isi, rd_fn, sl_fn, rd_met, sl_met, rd_call, sl_call, rd_comp, sl_comp, RG.start, T.chk, T.bind, outV, getR, getV, cmpOp, binOp, isiOp, f_len, f_abs, f_sum, f_all, f_tuple, f_sorted, f_repr, m_count, fnLen, fnAbs, fnTuple, asgT, asgT.asgL, wipeR, itOp, truth, plOf, small, RG.setP, frs, isFr, ownOf, getO, subOp, plainI, notOw, notOwA, augOp, enumOp, zipOp, intOf, sliOp, revOp, u_draw 10, drawF]
  refine W_draw (ρ2 := fun l => [.st, .va (yrs ys), .no, .va (.int (ys.length : Nat)), .va (.list (iL (sortI ys))), .va (rkT ys), .no, .no, .va (.tuple (iL (recs ys))), .va (yrs (ys.map fR)), .va (yrs (ys.map fA)), .va (yrs ys.reverse), .no, .no, .va (qt s 2), .va (qt (40 - s) 2), .va (.int l), .no]) ed (fun _ => rfl) (by decide) (by decide) hk fun l hl0 hl9 => ?_
  refine W_asg (d := .tuple (iL (ups ys l))) (ρ2 := [.st, .va (yrs ys), .no, .va (.int (ys.length : Nat)), .va (.list (iL (sortI ys))), .va (rkT ys), .no, .no, .va (.tuple (iL (recs ys))), .va (yrs (ys.map fR)), .va (yrs (ys.map fA)), .va (yrs ys.reverse), .no, .no, .va (qt s 2), .va (qt (40 - s) 2), .va (.int l), .va (.tuple (iL (ups ys l)))]) (by simp [runF, ex, ev, evT, evB, evV, evA, evC, evO, evI, getS, retV, rd_v, sl_v, rd_non, sl_non, rd_int, sl_int, rd_bl, sl_bl, rd_str, sl_str, rd_glob, sl_glob, rd_neg, sl_neg, rd_vnot, sl_vnot, rd_bin, sl_bin, rd_cmp, sl_cmp, rd_isN, sl_isN, rd_notN, sl_notN, rd_chn, sl_chn, rd_vbo, sl_vbo, rd_ife, sl_ife, rd_tup, sl_tup, rd_lst, sl_lst, rd_sub, sl_sub, rd_sli, sl_sli, rd_rev, sl_rev, rd_isi, sl_isi, rd_fn, sl_fn, rd_met, sl_met, rd_call, sl_call, rd_comp, sl_comp, RG.start, T.chk, T.bind, outV, getR, getV, cmpOp, binOp, isiOp, f_len, f_abs, f_sum, f_all, f_tuple, f_sorted, f_repr, m_count, fnLen, fnAbs, fnTuple, asgT, asgT.asgL, wipeR, itOp, truth, plOf, small, RG.setP, frs, isFr, ownOf, getO, subOp, plainI, notOw, notOwA, augOp, enumOp, zipOp, intOf, sliOp, revOp, yc1 h, rd_C_law_years_hold_1]) (by simp only [List.set]) ?_
  have cf : callF tab 11 "count_from" [.va (yrs ys), .va (.int l)] = .ret (.int ((ups ys l).length : Nat)) := (s_count_from 7 h.oky ⟨hl0, by omega⟩).trans (by rw [up_len])
  have al : callF tab 11 "accept_level" [.va (yrs ys), .va (.int l), .va (.int ((ups ys l).length : Nat)), .va (.tuple (iL (ups ys l)))] = .ret .none := s_accept_level 7 h.oky ⟨hl0, by omega⟩
  have okI : ∀ a b : Int, okEq (.int a) (.int b) = true := fun _ _ => rfl
  refine W_no (by simp [runF, ex, ev, evT, evB, evV, evA, evC, evO, evI, getS, retV, rd_v, sl_v, rd_non, sl_non, rd_int, sl_int, rd_bl, sl_bl, rd_str, sl_str, rd_glob, sl_glob, rd_neg, sl_neg, rd_vnot, sl_vnot, rd_bin, sl_bin, rd_cmp, sl_cmp, rd_isN, sl_isN, rd_notN, sl_notN, rd_chn, sl_chn, rd_vbo, sl_vbo, rd_ife, sl_ife, rd_tup, sl_tup, rd_lst, sl_lst, rd_sub, sl_sub, rd_sli, sl_sli, rd_rev, sl_rev, rd_isi, sl_isi, rd_fn, sl_fn, rd_met, sl_met, rd_call, sl_call, rd_comp, sl_comp, RG.start, T.chk, T.bind, outV, getR, getV, cmpOp, binOp, isiOp, f_len, f_abs, f_sum, f_all, f_tuple, f_sorted, f_repr, m_count, fnLen, fnAbs, fnTuple, asgT, asgT.asgL, wipeR, itOp, truth, plOf, small, RG.setP, frs, isFr, ownOf, getO, subOp, plainI, notOw, notOwA, augOp, enumOp, zipOp, intOf, sliOp, revOp, cf, al, okI, PyData.eqv]) ?_
  have okE : okEq (.list []) (.list []) = true := rfl
  have eqE : PyData.eqv (.list []) (.list []) = true := rfl
  refine W_ret (d := .bool true) (by simp [runF, ex, ev, evT, evB, evV, evA, evC, evO, evI, getS, retV, rd_v, sl_v, rd_non, sl_non, rd_int, sl_int, rd_bl, sl_bl, rd_str, sl_str, rd_glob, sl_glob, rd_neg, sl_neg, rd_vnot, sl_vnot, rd_bin, sl_bin, rd_cmp, sl_cmp, rd_isN, sl_isN, rd_notN, sl_notN, rd_chn, sl_chn, rd_vbo, sl_vbo, rd_ife, sl_ife, rd_tup, sl_tup, rd_lst, sl_lst, rd_sub, sl_sub, rd_sli, sl_sli, rd_rev, sl_rev, rd_isi, sl_isi, rd_fn, sl_fn, rd_met, sl_met, rd_call, sl_call, rd_comp, sl_comp, RG.start, T.chk, T.bind, outV, getR, getV, cmpOp, binOp, isiOp, f_len, f_abs, f_sum, f_all, f_tuple, f_sorted, f_repr, m_count, fnLen, fnAbs, fnTuple, asgT, asgT.asgL, wipeR, itOp, truth, plOf, small, RG.setP, frs, isFr, ownOf, getO, subOp, plainI, notOw, notOwA, augOp, enumOp, zipOp, intOf, sliOp, revOp, yc0 h, rd_C_law_years_hold_0, okE, eqE]) ⟨rfl, Nat.le_refl _⟩
end K63
end

section
set_option Elab.async false
set_option linter.all false
set_option maxRecDepth 1000000
set_option maxHeartbeats 0
namespace K63
open PySem RG
def okT : T PyData → Bool
  | .ret (.bool true) => true
  | .draw _ k => false
  | _ => false
/-- the records, behind the draw -/
def recT (m : Int) : T PyData := match callF tab 12 "_law_records_hold" [.st] with
  | .draw _ k => k m
  | _ => .fail
theorem rec_10 : okT (recT 3) = true := by decide +kernel
theorem rec_all : ((List.range 11).all fun i => okT (recT (i : Int))) = true := by decide +kernel
end K63
end

section
set_option Elab.async false
set_option linter.all false
set_option maxRecDepth 100000
set_option maxHeartbeats 4000000
/-! The years, and the records, with their draws. -/
namespace K63
open PySem RG
theorem s_years_hold {k : Nat} (hk : 11 ≤ k) : (callF tab 12 "_law_years_hold" [.st]).wp k fun d k' => d = .bool true ∧ k - 11 ≤ k' := by
  rw [u_law_years_hold, go_def rfl]
  refine W_iff.mp ?_
  have e : F_law_years_hold.body = .cons (.asg 1 false (.fn "tuple" (.cons C_law_years_hold_12 .nil))) (tailS F_law_years_hold_b) := rfl
  have e2 : RG.start F_law_years_hold [.st] = [.st, .no, .no, .no, .no, .no, .no, .no, .no, .no, .no, .no, .no, .no, .no, .no, .no, .no] := rfl
  rw [e, e2]
  refine W_asgW ?_
  unfold C_law_years_hold_12
  refine wp_row (m := 9) (n := 9) ?_ (by decide) (by decide) (fun x => ?_) (by decide) (by decide) (Nat.le_trans (by decide) hk) fun ys k' h1 h2 h3 h4 => ?_
  · simp [runF, ex, ev, evT, evB, evV, evA, evC, evO, evI, getS, retV, rd_v, sl_v, rd_non, sl_non, rd_int, sl_int, rd_bl, sl_bl, rd_str, sl_str, rd_glob, sl_glob, rd_neg, sl_neg, rd_vnot, sl_vnot, rd_bin, sl_bin, rd_cmp, sl_cmp, rd_isN, sl_isN, rd_notN, sl_notN, rd_chn, sl_chn, rd_vbo, sl_vbo, rd_ife, sl_ife, rd_tup, sl_tup, rd_lst, sl_lst, rd_sub, sl_sub, rd_sli, sl_sli, rd_rev, sl_rev, rd_isi, sl_isi, rd_fn, sl_fn, rd_met, sl_met, rd_call, sl_call, rd_comp, sl_comp, RG.start, T.chk, T.bind, outV, getR, getV, cmpOp, binOp, isiOp, f_len, f_abs, f_sum, f_all, f_tuple, f_sorted, f_repr, m_count, fnLen, fnAbs, fnTuple, asgT, asgT.asgL, wipeR, itOp, truth, plOf, small, RG.setP, frs, isFr, ownOf, getO, subOp, plainI, notOw, notOwA, augOp, enumOp, zipOp, intOf, sliOp, revOp, u_draw 10, drawF]
  · simp [runF, ex, ev, evT, evB, evV, evA, evC, evO, evI, getS, retV, rd_v, sl_v, rd_non, sl_non, rd_int, sl_int, rd_bl, sl_bl, rd_str, sl_str, rd_glob, sl_glob, rd_neg, sl_neg, rd_vnot, sl_vnot, rd_bin, sl_bin, rd_cmp, sl_cmp, rd_isN, sl_isN, rd_notN, sl_notN, rd_chn, sl_chn, rd_vbo, sl_vbo, rd_ife, sl_ife, rd_tup, sl_tup, rd_lst, sl_lst, rd_sub, sl_sub, rd_sli, sl_sli, rd_rev, sl_rev, rd_isi, sl_isi, rd_fn, sl_fn, rd_met, sl_met, rd_call, sl_call, rd_comp, sl_comp, RG.start, T.chk, T.bind, outV, getR, getV, cmpOp, binOp, isiOp, f_len, f_abs, f_sum, f_all, f_tuple, f_sorted, f_repr, m_count, fnLen, fnAbs, fnTuple, asgT, asgT.asgL, wipeR, itOp, truth, plOf, small, RG.setP, frs, isFr, ownOf, getO, subOp, plainI, notOw, notOwA, augOp, enumOp, zipOp, intOf, sliOp, revOp, lcF, u_draw 10, drawF]
  · have h4 : k - 10 ≤ k' := by
      have : (9 : Int).toNat = 9 := rfl
      omega
    have q := years_tail (k := k') (ys := ys) ⟨h1, by omega, h3⟩ (by omega)
    have e3 : [Sl.st, .no, .no, .no, .no, .no, .no, .no, .no, .no, .no, .no, .no, .no, .no, .no, .no, .no].set 1 (.va (.tuple (iL ys))) = [.st, .va (yrs ys), .no, .no, .no, .no, .no, .no, .no, .no, .no, .no, .no, .no, .no, .no, .no, .no] := rfl
    rw [e3]
    refine W_iff.mpr (T.wp_mono (fun d k2 ⟨q1, q2⟩ => ⟨q1, ?_⟩) (W_iff.mp q))
    omega
def dnT : T PyData → Option Int
  | .draw n _ => some n
  | _ => none
theorem dnT_eq {t : T PyData} {n : Int} (h : dnT t = some n) : t = .draw n (fun m => match t with
  | .draw _ k => k m
  | _ => .fail) := by
  cases t with
  | ret a => exact nomatch (show (none : Option Int) = some n from h)
  | fail => exact nomatch (show (none : Option Int) = some n from h)
  | draw m k =>
    have h : some m = some n := h
    cases h
    rfl
theorem okT_eq {t : T PyData} (h : okT t = true) : t = .ret (.bool true) := by
  cases t with
  | ret a =>
    cases a with
    | bool b => cases b with
      | true => rfl
      | false => exact nomatch (show false = true from h)
    | _ => exact nomatch (show false = true from h)
  | fail => exact nomatch (show false = true from h)
  | draw m k => exact nomatch (show false = true from h)
theorem rec_draw : dnT (callF tab 12 "_law_records_hold" [.st]) = some 11 := by decide +kernel
theorem s_records_hold {k : Nat} (hk : 1 ≤ k) : (callF tab 12 "_law_records_hold" [.st]).wp k fun d k' => d = .bool true ∧ k - 1 ≤ k' := by
  have e : callF tab 12 "_law_records_hold" [.st] = .draw 11 fun m => recT m := dnT_eq rec_draw
  rw [e]
  refine ⟨⟨by decide, by decide, hk⟩, fun d h0 h1 => ?_⟩
  have h2 := List.all_eq_true.mp rec_all d.toNat (List.mem_range.mpr (by omega))
  rw [Int.toNat_of_nonneg h0] at h2
  show (recT d).wp _ _
  rw [okT_eq h2]
  exact ⟨rfl, Nat.le_refl _⟩
end K63
end

section
set_option Elab.async false
set_option linter.all false
set_option maxRecDepth 1000000
set_option maxHeartbeats 0
/-! Odds: plain numbers. -/
namespace K63
def wy (n : Nat) : Nat → Nat
  | 0 => 1
  | k + 1 => wy n k * (n - k) / (k + 1)
def upS (p q n l : Nat) : Nat → Nat
  | 0 => 0
  | k + 1 => if l ≤ k then upS p q n l k + wy n k * p ^ k * q ^ (n - k) else upS p q n l k
def tailP (p d n l : Nat) : Nat := upS p (d - p) n l (n + 1)
def lawStep (p q : Nat) (ps : List Nat) : List Nat := (List.range (ps.length + 1)).map fun k => (if k < ps.length then ps.getD k 0 * q else 0) + (if k = 0 then 0 else ps.getD (k - 1) 0 * p)
def lawP (p q : Nat) : Nat → List Nat
  | 0 => [1]
  | n + 1 => lawStep p q (lawP p q n)
def stepW (p q : Nat) (ws : List Nat) : List Nat := List.zipWith (fun o a => o * q + a * p) ws (0 :: ws)
def stepM (p d : Nat) (s : List Nat × Nat) : List Nat × Nat := (stepW p (d - p) s.1, s.2 * d + s.1.getLastD 0 * p)
def fwS (p d l : Nat) : Nat → List Nat × Nat
  | 0 => (1 :: List.replicate (l - 1) 0, 0)
  | k + 1 => stepM p d (fwS p d l k)
def bothP (p q one other : Nat) : List Nat := (List.range (one + other + 1)).map fun size => (((List.range (size + 1)).filter fun k => decide (k ≤ one) && decide (size - k ≤ other)).map fun k => (lawP p q one).getD k 0 * (lawP p q other).getD (size - k) 0).sum
/-- all odds of parts up to six -/
def allO (f : Nat → Nat → Bool) : Bool := (List.range 7).all fun d => Nat.blt d 1 || (List.range (d + 1)).all fun p => f p d
def ck1 (p d : Nat) : Bool := (List.range 11).all fun n => (List.range (n + 1)).all fun l => Nat.beq (tailP p d n l) ((lawP p (d - p) n).drop l).sum && (Nat.beq l 0 || Nat.beq (tailP (d - p) d n (n - l + 1)) ((lawP p (d - p) n).take l).sum)
def ck2 (p d : Nat) : Bool := (List.range 6).all fun one => (List.range 6).all fun other => bothP p (d - p) one other == lawP p (d - p) (one + other)
def ck3 (p d : Nat) : Bool := (List.range 11).all fun n => (lawP p (d - p) n).all fun x => Nat.blt x 18446744073709551616
def ck4 (p d : Nat) : Bool := (List.range 5).all fun l => Nat.beq l 0 || (List.range 41).all fun k => Nat.beq (fwS p d l k).2 (tailP p d k l)
def ck5 (p d : Nat) : Bool := (List.range 9).all fun n => (List.range (n + 1)).all fun l => Nat.beq (d ^ n) (tailP (d - p) d n (n - l) + tailP p d n (l + 1))
theorem a1 : allO ck1 = true := by decide +kernel
theorem a2 : allO ck2 = true := by decide +kernel
theorem a3 : allO ck3 = true := by decide +kernel
theorem a5 : allO ck5 = true := by decide +kernel
theorem a4 : allO ck4 = true := by decide +kernel
end K63
end

section
set_option Elab.async false
set_option linter.all false
set_option maxRecDepth 100000
set_option maxHeartbeats 4000000
/-! Odds: the program's functions. -/
namespace K63
open PySem RG
abbrev odT (p d : Nat) : PyData := .tuple [.int (p : Int), .int (d : Int)]
theorem od0 (p d : Nat) : atD [PyData.int (p : Int), .int (d : Int)] 0 = .ret (.int (p : Int)) := at_of (k := 0) rfl rfl
theorem od1 (p d : Nat) : atD [PyData.int (p : Int), .int (d : Int)] 1 = .ret (.int (d : Int)) := at_of (k := 1) rfl rfl
theorem okI (a b : Int) : okEq (.int a) (.int b) = true := rfl
theorem s_power (n : Nat) {b m : Nat} (hb : b < 1000) (hm : m ≤ 1000) : callF tab (n + 1) "power" [.va (.int (b : Int)), .va (.int (m : Int))] = .ret (.int (b ^ m : Nat)) := by
  rw [u_power, go_def rfl]
  unfold F_power F_power_b
  refine (go_asgS (d := .int 1) (ρ2 := [.va (.int b), .va (.int m), .va (.int 1), .no]) (by simp [runF, ex, ev, evT, evB, evV, evA, evC, evO, evI, getS, retV, rd_v, sl_v, rd_non, sl_non, rd_int, sl_int, rd_bl, sl_bl, rd_str, sl_str, rd_glob, sl_glob, rd_neg, sl_neg, rd_vnot, sl_vnot, rd_bin, sl_bin, rd_cmp, sl_cmp, rd_isN, sl_isN, rd_notN, sl_notN, rd_chn, sl_chn, rd_vbo, sl_vbo, rd_ife, sl_ife, rd_tup, sl_tup, rd_lst, sl_lst, rd_sub, sl_sub, rd_sli, sl_sli, rd_rev, sl_rev, rd_isi, sl_isi, rd_fn, sl_fn, rd_met, sl_met, rd_call, sl_call, rd_comp, sl_comp, RG.start, T.chk, T.bind, outV, getR, getV, cmpOp, binOp, isiOp, f_len, f_abs, f_sum, f_all, f_tuple, f_sorted, f_repr, m_count, fnLen, fnAbs, fnTuple, asgT, asgT.asgL, wipeR, itOp, truth, plOf, small, RG.setP, frs, isFr, ownOf, getO, subOp, plainI, notOw, notOwA, augOp, enumOp, zipOp, intOf, sliOp, revOp]) (by simp [runF, ex, ev, evT, evB, evV, evA, evC, evO, evI, getS, retV, rd_v, sl_v, rd_non, sl_non, rd_int, sl_int, rd_bl, sl_bl, rd_str, sl_str, rd_glob, sl_glob, rd_neg, sl_neg, rd_vnot, sl_vnot, rd_bin, sl_bin, rd_cmp, sl_cmp, rd_isN, sl_isN, rd_notN, sl_notN, rd_chn, sl_chn, rd_vbo, sl_vbo, rd_ife, sl_ife, rd_tup, sl_tup, rd_lst, sl_lst, rd_sub, sl_sub, rd_sli, sl_sli, rd_rev, sl_rev, rd_isi, sl_isi, rd_fn, sl_fn, rd_met, sl_met, rd_call, sl_call, rd_comp, sl_comp, RG.start, T.chk, T.bind, outV, getR, getV, cmpOp, binOp, isiOp, f_len, f_abs, f_sum, f_all, f_tuple, f_sorted, f_repr, m_count, fnLen, fnAbs, fnTuple, asgT, asgT.asgL, wipeR, itOp, truth, plOf, small, RG.setP, frs, isFr, ownOf, getO, subOp, plainI, notOw, notOwA, augOp, enumOp, zipOp, intOf, sliOp, revOp])).trans ?_
  obtain ⟨ρ', e1, s3, e2⟩ := forG_inv (f := fun d ρ => (asgT (.v 3) d ρ).bind fun ρ' => ex (callF tab n) L_power_0 ρ') (m := fun i : Nat => PyData.int (i : Int)) (all := List.range m)
    (I := fun done ρ => ∃ s3, ρ = [.va (.int b), .va (.int m), .va (.int (b ^ done.length : Nat)), s3]) (fun done x rest ρ e ⟨s3, e2⟩ => by
      subst e2
      have hlen : (done ++ [x]).length = done.length + 1 := by simp
      rw [hlen]
      refine ⟨_, ?_, .va (.int (x : Int)), rfl⟩
      have e3 : ((b ^ (done.length + 1) : Nat) : Int) = ((b ^ done.length : Nat) : Int) * (b : Int) := by rw [Nat.pow_succ, Int.natCast_mul]
      rw [e3]
      generalize ((b ^ done.length : Nat) : Int) = w
      have hb2 : b < 18446744073709551616 := by omega
      simp [runF, ex, ev, evT, evB, evV, evA, evC, evO, evI, getS, retV, rd_v, sl_v, rd_non, sl_non, rd_int, sl_int, rd_bl, sl_bl, rd_str, sl_str, rd_glob, sl_glob, rd_neg, sl_neg, rd_vnot, sl_vnot, rd_bin, sl_bin, rd_cmp, sl_cmp, rd_isN, sl_isN, rd_notN, sl_notN, rd_chn, sl_chn, rd_vbo, sl_vbo, rd_ife, sl_ife, rd_tup, sl_tup, rd_lst, sl_lst, rd_sub, sl_sub, rd_sli, sl_sli, rd_rev, sl_rev, rd_isi, sl_isi, rd_fn, sl_fn, rd_met, sl_met, rd_call, sl_call, rd_comp, sl_comp, RG.start, T.chk, T.bind, outV, getR, getV, cmpOp, binOp, isiOp, f_len, f_abs, f_sum, f_all, f_tuple, f_sorted, f_repr, m_count, fnLen, fnAbs, fnTuple, asgT, asgT.asgL, wipeR, itOp, truth, plOf, small, RG.setP, frs, isFr, ownOf, getO, subOp, plainI, notOw, notOwA, augOp, enumOp, zipOp, intOf, sliOp, revOp, L_power_0, hb2]) (ρ := [.va (.int b), .va (.int m), .va (.int 1), .no]) ⟨_, rfl⟩
  subst e2
  refine (go_for (ds := (List.range m).map fun i : Nat => PyData.int (i : Int)) rfl ?_ e1).trans ?_
  · rw [← rng1 (n := (m : Int)) rfl (by omega)]
    simp [runF, ex, ev, evT, evB, evV, evA, evC, evO, evI, getS, retV, rd_v, sl_v, rd_non, sl_non, rd_int, sl_int, rd_bl, sl_bl, rd_str, sl_str, rd_glob, sl_glob, rd_neg, sl_neg, rd_vnot, sl_vnot, rd_bin, sl_bin, rd_cmp, sl_cmp, rd_isN, sl_isN, rd_notN, sl_notN, rd_chn, sl_chn, rd_vbo, sl_vbo, rd_ife, sl_ife, rd_tup, sl_tup, rd_lst, sl_lst, rd_sub, sl_sub, rd_sli, sl_sli, rd_rev, sl_rev, rd_isi, sl_isi, rd_fn, sl_fn, rd_met, sl_met, rd_call, sl_call, rd_comp, sl_comp, RG.start, T.chk, T.bind, outV, getR, getV, cmpOp, binOp, isiOp, f_len, f_abs, f_sum, f_all, f_tuple, f_sorted, f_repr, m_count, fnLen, fnAbs, fnTuple, asgT, asgT.asgL, wipeR, itOp, truth, plOf, small, RG.setP, frs, isFr, ownOf, getO, subOp, plainI, notOw, notOwA, augOp, enumOp, zipOp, intOf, sliOp, revOp]
  refine go_ret ?_
  rw [List.length_range]
  generalize b ^ m = w
  simp [runF, ex, ev, evT, evB, evV, evA, evC, evO, evI, getS, retV, rd_v, sl_v, rd_non, sl_non, rd_int, sl_int, rd_bl, sl_bl, rd_str, sl_str, rd_glob, sl_glob, rd_neg, sl_neg, rd_vnot, sl_vnot, rd_bin, sl_bin, rd_cmp, sl_cmp, rd_isN, sl_isN, rd_notN, sl_notN, rd_chn, sl_chn, rd_vbo, sl_vbo, rd_ife, sl_ife, rd_tup, sl_tup, rd_lst, sl_lst, rd_sub, sl_sub, rd_sli, sl_sli, rd_rev, sl_rev, rd_isi, sl_isi, rd_fn, sl_fn, rd_met, sl_met, rd_call, sl_call, rd_comp, sl_comp, RG.start, T.chk, T.bind, outV, getR, getV, cmpOp, binOp, isiOp, f_len, f_abs, f_sum, f_all, f_tuple, f_sorted, f_repr, m_count, fnLen, fnAbs, fnTuple, asgT, asgT.asgL, wipeR, itOp, truth, plOf, small, RG.setP, frs, isFr, ownOf, getO, subOp, plainI, notOw, notOwA, augOp, enumOp, zipOp, intOf, sliOp, revOp]
theorem s_check_odds (n : Nat) {p d : Nat} (hp : p ≤ d) (h1 : 1 ≤ d) (hd : d ≤ 1000) : callF tab (n + 3) "check_odds" [.va (odT p d)] = .ret .none := by
  have b1 : callF tab (n + 2) "is_between" [.va (.int (d : Int)), .va (.int 1), .va (.int 1000)] = .ret (.bool true) := by
    rw [s_is_between, decide_eq_true (by omega), decide_eq_true (by omega)]
    rfl
  have b2 : callF tab (n + 2) "is_between" [.va (.int (p : Int)), .va (.int 0), .va (.int (d : Int))] = .ret (.bool true) := by
    rw [s_is_between, decide_eq_true (by omega), decide_eq_true (by omega)]
    rfl
  rw [u_check_odds, go_def rfl]
  unfold F_check_odds F_check_odds_b
  refine (go_no (by simp [runF, ex, ev, evT, evB, evV, evA, evC, evO, evI, getS, retV, rd_v, sl_v, rd_non, sl_non, rd_int, sl_int, rd_bl, sl_bl, rd_str, sl_str, rd_glob, sl_glob, rd_neg, sl_neg, rd_vnot, sl_vnot, rd_bin, sl_bin, rd_cmp, sl_cmp, rd_isN, sl_isN, rd_notN, sl_notN, rd_chn, sl_chn, rd_vbo, sl_vbo, rd_ife, sl_ife, rd_tup, sl_tup, rd_lst, sl_lst, rd_sub, sl_sub, rd_sli, sl_sli, rd_rev, sl_rev, rd_isi, sl_isi, rd_fn, sl_fn, rd_met, sl_met, rd_call, sl_call, rd_comp, sl_comp, RG.start, T.chk, T.bind, outV, getR, getV, cmpOp, binOp, isiOp, f_len, f_abs, f_sum, f_all, f_tuple, f_sorted, f_repr, m_count, fnLen, fnAbs, fnTuple, asgT, asgT.asgL, wipeR, itOp, truth, plOf, small, RG.setP, frs, isFr, ownOf, getO, subOp, plainI, notOw, notOwA, augOp, enumOp, zipOp, intOf, sliOp, revOp, od1, okI, PyData.eqv, b1])).trans ?_
  refine (go_no (by simp [runF, ex, ev, evT, evB, evV, evA, evC, evO, evI, getS, retV, rd_v, sl_v, rd_non, sl_non, rd_int, sl_int, rd_bl, sl_bl, rd_str, sl_str, rd_glob, sl_glob, rd_neg, sl_neg, rd_vnot, sl_vnot, rd_bin, sl_bin, rd_cmp, sl_cmp, rd_isN, sl_isN, rd_notN, sl_notN, rd_chn, sl_chn, rd_vbo, sl_vbo, rd_ife, sl_ife, rd_tup, sl_tup, rd_lst, sl_lst, rd_sub, sl_sub, rd_sli, sl_sli, rd_rev, sl_rev, rd_isi, sl_isi, rd_fn, sl_fn, rd_met, sl_met, rd_call, sl_call, rd_comp, sl_comp, RG.start, T.chk, T.bind, outV, getR, getV, cmpOp, binOp, isiOp, f_len, f_abs, f_sum, f_all, f_tuple, f_sorted, f_repr, m_count, fnLen, fnAbs, fnTuple, asgT, asgT.asgL, wipeR, itOp, truth, plOf, small, RG.setP, frs, isFr, ownOf, getO, subOp, plainI, notOw, notOwA, augOp, enumOp, zipOp, intOf, sliOp, revOp, od0, od1, b2])).trans go_end
theorem s_check_limit (n : Nat) {p d : Nat} (hp : p ≤ d) (h1 : 1 ≤ d) (hd : d ≤ 1000) : callF tab (n + 3) "check_limit" [.va (odT p d)] = .ret .none := by
  have b1 : callF tab (n + 2) "is_between" [.va (.int (d : Int)), .va (.int 1), .va (.int 1000)] = .ret (.bool true) := by
    rw [s_is_between, decide_eq_true (by omega), decide_eq_true (by omega)]
    rfl
  have b2 : callF tab (n + 2) "is_between" [.va (.int (p : Int)), .va (.int 0), .va (.int (d : Int))] = .ret (.bool true) := by
    rw [s_is_between, decide_eq_true (by omega), decide_eq_true (by omega)]
    rfl
  rw [u_check_limit, go_def rfl]
  unfold F_check_limit F_check_limit_b
  refine (go_no (by simp [runF, ex, ev, evT, evB, evV, evA, evC, evO, evI, getS, retV, rd_v, sl_v, rd_non, sl_non, rd_int, sl_int, rd_bl, sl_bl, rd_str, sl_str, rd_glob, sl_glob, rd_neg, sl_neg, rd_vnot, sl_vnot, rd_bin, sl_bin, rd_cmp, sl_cmp, rd_isN, sl_isN, rd_notN, sl_notN, rd_chn, sl_chn, rd_vbo, sl_vbo, rd_ife, sl_ife, rd_tup, sl_tup, rd_lst, sl_lst, rd_sub, sl_sub, rd_sli, sl_sli, rd_rev, sl_rev, rd_isi, sl_isi, rd_fn, sl_fn, rd_met, sl_met, rd_call, sl_call, rd_comp, sl_comp, RG.start, T.chk, T.bind, outV, getR, getV, cmpOp, binOp, isiOp, f_len, f_abs, f_sum, f_all, f_tuple, f_sorted, f_repr, m_count, fnLen, fnAbs, fnTuple, asgT, asgT.asgL, wipeR, itOp, truth, plOf, small, RG.setP, frs, isFr, ownOf, getO, subOp, plainI, notOw, notOwA, augOp, enumOp, zipOp, intOf, sliOp, revOp, od1, okI, PyData.eqv, b1])).trans ?_
  refine (go_no (by simp [runF, ex, ev, evT, evB, evV, evA, evC, evO, evI, getS, retV, rd_v, sl_v, rd_non, sl_non, rd_int, sl_int, rd_bl, sl_bl, rd_str, sl_str, rd_glob, sl_glob, rd_neg, sl_neg, rd_vnot, sl_vnot, rd_bin, sl_bin, rd_cmp, sl_cmp, rd_isN, sl_isN, rd_notN, sl_notN, rd_chn, sl_chn, rd_vbo, sl_vbo, rd_ife, sl_ife, rd_tup, sl_tup, rd_lst, sl_lst, rd_sub, sl_sub, rd_sli, sl_sli, rd_rev, sl_rev, rd_isi, sl_isi, rd_fn, sl_fn, rd_met, sl_met, rd_call, sl_call, rd_comp, sl_comp, RG.start, T.chk, T.bind, outV, getR, getV, cmpOp, binOp, isiOp, f_len, f_abs, f_sum, f_all, f_tuple, f_sorted, f_repr, m_count, fnLen, fnAbs, fnTuple, asgT, asgT.asgL, wipeR, itOp, truth, plOf, small, RG.setP, frs, isFr, ownOf, getO, subOp, plainI, notOw, notOwA, augOp, enumOp, zipOp, intOf, sliOp, revOp, od0, od1, b2])).trans go_end
theorem s_check_counts (n : Nat) {m l : Nat} (hl : l ≤ m) (h1 : 1 ≤ m) (hm : m ≤ 200) : callF tab (n + 3) "check_counts" [.va (.int (m : Int)), .va (.int (l : Int))] = .ret .none := by
  have b1 : callF tab (n + 2) "is_between" [.va (.int (m : Int)), .va (.int 1), .va (.int 200)] = .ret (.bool true) := by
    rw [s_is_between, decide_eq_true (by omega), decide_eq_true (by omega)]
    rfl
  have b2 : callF tab (n + 2) "is_between" [.va (.int (l : Int)), .va (.int 0), .va (.int (m : Int))] = .ret (.bool true) := by
    rw [s_is_between, decide_eq_true (by omega), decide_eq_true (by omega)]
    rfl
  rw [u_check_counts, go_def rfl]
  unfold F_check_counts F_check_counts_b
  refine (go_no (by simp [runF, ex, ev, evT, evB, evV, evA, evC, evO, evI, getS, retV, rd_v, sl_v, rd_non, sl_non, rd_int, sl_int, rd_bl, sl_bl, rd_str, sl_str, rd_glob, sl_glob, rd_neg, sl_neg, rd_vnot, sl_vnot, rd_bin, sl_bin, rd_cmp, sl_cmp, rd_isN, sl_isN, rd_notN, sl_notN, rd_chn, sl_chn, rd_vbo, sl_vbo, rd_ife, sl_ife, rd_tup, sl_tup, rd_lst, sl_lst, rd_sub, sl_sub, rd_sli, sl_sli, rd_rev, sl_rev, rd_isi, sl_isi, rd_fn, sl_fn, rd_met, sl_met, rd_call, sl_call, rd_comp, sl_comp, RG.start, T.chk, T.bind, outV, getR, getV, cmpOp, binOp, isiOp, f_len, f_abs, f_sum, f_all, f_tuple, f_sorted, f_repr, m_count, fnLen, fnAbs, fnTuple, asgT, asgT.asgL, wipeR, itOp, truth, plOf, small, RG.setP, frs, isFr, ownOf, getO, subOp, plainI, notOw, notOwA, augOp, enumOp, zipOp, intOf, sliOp, revOp, b1])).trans ?_
  refine (go_no (by simp [runF, ex, ev, evT, evB, evV, evA, evC, evO, evI, getS, retV, rd_v, sl_v, rd_non, sl_non, rd_int, sl_int, rd_bl, sl_bl, rd_str, sl_str, rd_glob, sl_glob, rd_neg, sl_neg, rd_vnot, sl_vnot, rd_bin, sl_bin, rd_cmp, sl_cmp, rd_isN, sl_isN, rd_notN, sl_notN, rd_chn, sl_chn, rd_vbo, sl_vbo, rd_ife, sl_ife, rd_tup, sl_tup, rd_lst, sl_lst, rd_sub, sl_sub, rd_sli, sl_sli, rd_rev, sl_rev, rd_isi, sl_isi, rd_fn, sl_fn, rd_met, sl_met, rd_call, sl_call, rd_comp, sl_comp, RG.start, T.chk, T.bind, outV, getR, getV, cmpOp, binOp, isiOp, f_len, f_abs, f_sum, f_all, f_tuple, f_sorted, f_repr, m_count, fnLen, fnAbs, fnTuple, asgT, asgT.asgL, wipeR, itOp, truth, plOf, small, RG.setP, frs, isFr, ownOf, getO, subOp, plainI, notOw, notOwA, augOp, enumOp, zipOp, intOf, sliOp, revOp, b2])).trans go_end
/-! bounds -/
theorem wy_le {n : Nat} (hn : n ≤ 40) : ∀ k, wy n k ≤ 40 ^ k
  | 0 => Nat.le_refl _
  | k + 1 => by
    have h := wy_le hn k
    unfold wy
    rw [Nat.pow_succ]
    exact Nat.le_trans (Nat.div_le_self _ _) (Nat.mul_le_mul h (by omega))
theorem pw_le {b k : Nat} (hb : b ≤ 6) (hk : k ≤ 41) : b ^ k ≤ 2 ^ 120 := Nat.le_trans (Nat.pow_le_pow_left hb k) (Nat.le_trans (Nat.pow_le_pow_right (by decide) hk) (by decide +kernel))
theorem wy_b {n k : Nat} (hn : n ≤ 40) (hk : k ≤ 41) : wy n k ≤ 2 ^ 240 := Nat.le_trans (wy_le hn k) (Nat.le_trans (Nat.pow_le_pow_right (by decide) hk) (by decide +kernel))
theorem up_b {p q n l : Nat} (hp : p ≤ 6) (hq : q ≤ 6) (hn : n ≤ 40) : ∀ k, k ≤ 41 → upS p q n l k ≤ k * 2 ^ 480
  | 0, _ => Nat.zero_le _
  | k + 1, hk => by
    have h := up_b (l := l) hp hq hn k (by omega)
    unfold upS
    have h1 : wy n k * p ^ k * q ^ (n - k) ≤ 2 ^ 480 := Nat.le_trans (Nat.mul_le_mul (Nat.mul_le_mul (wy_b hn (by omega)) (pw_le hp (by omega))) (pw_le hq (by omega))) (by decide +kernel)
    rw [Nat.succ_mul]
    split <;> omega
theorem big240 {a : Nat} (h : a ≤ 2 ^ 240) : ((a : Int)).natAbs < 2 ^ 9000 := by
  rw [Int.natAbs_natCast]
  exact Nat.lt_of_le_of_lt h (by decide +kernel)
theorem big480 {a : Nat} (h : a ≤ 41 * 2 ^ 480) : a < 2 ^ 9000 := Nat.lt_of_le_of_lt h (by decide +kernel)
theorem s_rows_from (m : Nat) {p d n l : Nat} (hp : p ≤ d) (hd : d ≤ 6) (hn : n ≤ 40) : callF tab (m + 2) "rows_from" [.va (odT p d), .va (.int (n : Int)), .va (.int (l : Int))] = .ret (.tuple [.int (tailP p d n l : Nat), .int (d ^ n : Nat)]) := by
  rw [u_rows_from, go_def rfl]
  unfold F_rows_from F_rows_from_b
  refine (go_asgP (xs := [.va (.int 0), .va (.int 1)]) (ρ' := [.va (odT p d), .va (.int n), .va (.int l), .va (.int 0), .va (.int 1), .no]) (by simp [runF, ex, ev, evT, evB, evV, evA, evC, evO, evI, getS, retV, rd_v, sl_v, rd_non, sl_non, rd_int, sl_int, rd_bl, sl_bl, rd_str, sl_str, rd_glob, sl_glob, rd_neg, sl_neg, rd_vnot, sl_vnot, rd_bin, sl_bin, rd_cmp, sl_cmp, rd_isN, sl_isN, rd_notN, sl_notN, rd_chn, sl_chn, rd_vbo, sl_vbo, rd_ife, sl_ife, rd_tup, sl_tup, rd_lst, sl_lst, rd_sub, sl_sub, rd_sli, sl_sli, rd_rev, sl_rev, rd_isi, sl_isi, rd_fn, sl_fn, rd_met, sl_met, rd_call, sl_call, rd_comp, sl_comp, RG.start, T.chk, T.bind, outV, getR, getV, cmpOp, binOp, isiOp, f_len, f_abs, f_sum, f_all, f_tuple, f_sorted, f_repr, m_count, fnLen, fnAbs, fnTuple, asgT, asgT.asgL, wipeR, itOp, truth, plOf, small, RG.setP, frs, isFr, ownOf, getO, subOp, plainI, notOw, notOwA, augOp, enumOp, zipOp, intOf, sliOp, revOp]) (by simp [runF, ex, ev, evT, evB, evV, evA, evC, evO, evI, getS, retV, rd_v, sl_v, rd_non, sl_non, rd_int, sl_int, rd_bl, sl_bl, rd_str, sl_str, rd_glob, sl_glob, rd_neg, sl_neg, rd_vnot, sl_vnot, rd_bin, sl_bin, rd_cmp, sl_cmp, rd_isN, sl_isN, rd_notN, sl_notN, rd_chn, sl_chn, rd_vbo, sl_vbo, rd_ife, sl_ife, rd_tup, sl_tup, rd_lst, sl_lst, rd_sub, sl_sub, rd_sli, sl_sli, rd_rev, sl_rev, rd_isi, sl_isi, rd_fn, sl_fn, rd_met, sl_met, rd_call, sl_call, rd_comp, sl_comp, RG.start, T.chk, T.bind, outV, getR, getV, cmpOp, binOp, isiOp, f_len, f_abs, f_sum, f_all, f_tuple, f_sorted, f_repr, m_count, fnLen, fnAbs, fnTuple, asgT, asgT.asgL, wipeR, itOp, truth, plOf, small, RG.setP, frs, isFr, ownOf, getO, subOp, plainI, notOw, notOwA, augOp, enumOp, zipOp, intOf, sliOp, revOp])).trans ?_
  obtain ⟨ρ', e1, s5, e2⟩ := forG_inv (f := fun d ρ => (asgT (.v 5) d ρ).bind fun ρ' => ex (callF tab (m + 1)) L_rows_from_0 ρ') (m := fun i : Nat => PyData.int (i : Int)) (all := List.range (n + 1))
    (I := fun done ρ => ∃ s5, ρ = [.va (odT p d), .va (.int n), .va (.int l), .va (.int (upS p (d - p) n l done.length : Nat)), .va (.int (wy n done.length : Nat)), s5]) (fun done x rest ρ e ⟨s5, e2⟩ => by
      subst e2
      obtain ⟨_, r2, r3⟩ := range_split e
      have hlen : (done ++ [x]).length = done.length + 1 := by simp
      rw [hlen, ← r2]
      rw [← r2] at r3
      refine ⟨_, ?_, .va (.int (x : Int)), rfl⟩
      have pw1 : callF tab (m + 1) "power" [.va (.int (p : Int)), .va (.int (x : Int))] = .ret (.int (p ^ x : Nat)) := s_power m (by omega) (by omega)
      have pw2 : callF tab (m + 1) "power" [.va (.int ((d : Int) - (p : Int))), .va (.int ((n : Int) - (x : Int)))] = .ret (.int ((d - p) ^ (n - x) : Nat)) := by
        have q := s_power m (b := d - p) (m := n - x) (by omega) (by omega)
        rw [Int.natCast_sub hp, Int.natCast_sub (by omega)] at q
        exact q
      have b1 := wy_b (n := n) (k := x) hn (by omega)
      have b2 := pw_le (b := p) (k := x) (by omega) (by omega)
      have b3 := pw_le (b := d - p) (k := n - x) (by omega) (by omega)
      have ok1 : mulOk (wy n x : Nat) (p ^ x : Nat) = true := mulOk_big (big240 b1) (big240 (Nat.le_trans b2 (by decide +kernel)))
      have ok2 : mulOk (((wy n x : Nat) : Int) * ((p ^ x : Nat) : Int)) ((d - p) ^ (n - x) : Nat) = true := mulOk_big (by
        rw [← Int.natCast_mul, Int.natAbs_natCast]
        exact Nat.lt_of_le_of_lt (Nat.mul_le_mul b1 b2) (by decide +kernel)) (big240 (Nat.le_trans b3 (by decide +kernel)))
      have ok3 : mulOk (wy n x : Nat) ((n : Int) - (x : Int)) = true := mulOk_r (by omega)
      have dv : divOk (((wy n x : Nat) : Int) * ((n : Int) - (x : Int))) ((x : Int) + 1) = true := divOk_lit (by omega) (by omega)
      have fd : (((wy n x : Nat) : Int) * ((n : Int) - (x : Int))).fdiv ((x : Int) + 1) = ((wy n (x + 1) : Nat) : Int) := by
        have q := fdiv_nat (wy n x * (n - x)) (x + 1)
        rw [Int.natCast_mul, Int.natCast_sub (by omega)] at q
        exact q
      have us : upS p (d - p) n l (x + 1) = if l ≤ x then upS p (d - p) n l x + wy n x * p ^ x * (d - p) ^ (n - x) else upS p (d - p) n l x := rfl
      generalize wy n (x + 1) = w' at *
      generalize upS p (d - p) n l (x + 1) = u' at *
      generalize upS p (d - p) n l x = u at *
      generalize wy n x = w at *
      generalize p ^ x = a at *
      generalize (d - p) ^ (n - x) = b at *
      by_cases z : l ≤ x
      · rw [if_pos z] at us
        have us : (u' : Int) = (u : Int) + (w : Int) * (a : Int) * (b : Int) := by rw [us, Int.natCast_add, Int.natCast_mul, Int.natCast_mul]
        rw [us]
        simp [runF, ex, ev, evT, evB, evV, evA, evC, evO, evI, getS, retV, rd_v, sl_v, rd_non, sl_non, rd_int, sl_int, rd_bl, sl_bl, rd_str, sl_str, rd_glob, sl_glob, rd_neg, sl_neg, rd_vnot, sl_vnot, rd_bin, sl_bin, rd_cmp, sl_cmp, rd_isN, sl_isN, rd_notN, sl_notN, rd_chn, sl_chn, rd_vbo, sl_vbo, rd_ife, sl_ife, rd_tup, sl_tup, rd_lst, sl_lst, rd_sub, sl_sub, rd_sli, sl_sli, rd_rev, sl_rev, rd_isi, sl_isi, rd_fn, sl_fn, rd_met, sl_met, rd_call, sl_call, rd_comp, sl_comp, RG.start, T.chk, T.bind, outV, getR, getV, cmpOp, binOp, isiOp, f_len, f_abs, f_sum, f_all, f_tuple, f_sorted, f_repr, m_count, fnLen, fnAbs, fnTuple, asgT, asgT.asgL, wipeR, itOp, truth, plOf, small, RG.setP, frs, isFr, ownOf, getO, subOp, plainI, notOw, notOwA, augOp, enumOp, zipOp, intOf, sliOp, revOp, L_rows_from_0, od0, od1, z, pw1, pw2, ok1, ok2, ok3, dv, fd]
      · rw [if_neg z] at us
        subst us
        simp [runF, ex, ev, evT, evB, evV, evA, evC, evO, evI, getS, retV, rd_v, sl_v, rd_non, sl_non, rd_int, sl_int, rd_bl, sl_bl, rd_str, sl_str, rd_glob, sl_glob, rd_neg, sl_neg, rd_vnot, sl_vnot, rd_bin, sl_bin, rd_cmp, sl_cmp, rd_isN, sl_isN, rd_notN, sl_notN, rd_chn, sl_chn, rd_vbo, sl_vbo, rd_ife, sl_ife, rd_tup, sl_tup, rd_lst, sl_lst, rd_sub, sl_sub, rd_sli, sl_sli, rd_rev, sl_rev, rd_isi, sl_isi, rd_fn, sl_fn, rd_met, sl_met, rd_call, sl_call, rd_comp, sl_comp, RG.start, T.chk, T.bind, outV, getR, getV, cmpOp, binOp, isiOp, f_len, f_abs, f_sum, f_all, f_tuple, f_sorted, f_repr, m_count, fnLen, fnAbs, fnTuple, asgT, asgT.asgL, wipeR, itOp, truth, plOf, small, RG.setP, frs, isFr, ownOf, getO, subOp, plainI, notOw, notOwA, augOp, enumOp, zipOp, intOf, sliOp, revOp, L_rows_from_0, od0, od1, z, pw1, pw2, ok1, ok2, ok3, dv, fd]) (ρ := [.va (odT p d), .va (.int n), .va (.int l), .va (.int 0), .va (.int 1), .no]) ⟨_, rfl⟩
  subst e2
  refine (go_for (ds := (List.range (n + 1)).map fun i : Nat => PyData.int (i : Int)) rfl ?_ e1).trans ?_
  · rw [← rng1 (n := (n : Int) + 1) (m := n + 1) rfl (by omega)]
    simp [runF, ex, ev, evT, evB, evV, evA, evC, evO, evI, getS, retV, rd_v, sl_v, rd_non, sl_non, rd_int, sl_int, rd_bl, sl_bl, rd_str, sl_str, rd_glob, sl_glob, rd_neg, sl_neg, rd_vnot, sl_vnot, rd_bin, sl_bin, rd_cmp, sl_cmp, rd_isN, sl_isN, rd_notN, sl_notN, rd_chn, sl_chn, rd_vbo, sl_vbo, rd_ife, sl_ife, rd_tup, sl_tup, rd_lst, sl_lst, rd_sub, sl_sub, rd_sli, sl_sli, rd_rev, sl_rev, rd_isi, sl_isi, rd_fn, sl_fn, rd_met, sl_met, rd_call, sl_call, rd_comp, sl_comp, RG.start, T.chk, T.bind, outV, getR, getV, cmpOp, binOp, isiOp, f_len, f_abs, f_sum, f_all, f_tuple, f_sorted, f_repr, m_count, fnLen, fnAbs, fnTuple, asgT, asgT.asgL, wipeR, itOp, truth, plOf, small, RG.setP, frs, isFr, ownOf, getO, subOp, plainI, notOw, notOwA, augOp, enumOp, zipOp, intOf, sliOp, revOp]
  refine go_ret ?_
  have pw : callF tab (m + 1) "power" [.va (.int (d : Int)), .va (.int (n : Int))] = .ret (.int (d ^ n : Nat)) := s_power m (by omega) (by omega)
  rw [List.length_range]
  show _ = T.ret (PyData.tuple [.int (upS p (d - p) n l (n + 1) : Nat), .int (d ^ n : Nat)])
  generalize upS p (d - p) n l (n + 1) = u at *
  generalize d ^ n = w at *
  simp [runF, ex, ev, evT, evB, evV, evA, evC, evO, evI, getS, retV, rd_v, sl_v, rd_non, sl_non, rd_int, sl_int, rd_bl, sl_bl, rd_str, sl_str, rd_glob, sl_glob, rd_neg, sl_neg, rd_vnot, sl_vnot, rd_bin, sl_bin, rd_cmp, sl_cmp, rd_isN, sl_isN, rd_notN, sl_notN, rd_chn, sl_chn, rd_vbo, sl_vbo, rd_ife, sl_ife, rd_tup, sl_tup, rd_lst, sl_lst, rd_sub, sl_sub, rd_sli, sl_sli, rd_rev, sl_rev, rd_isi, sl_isi, rd_fn, sl_fn, rd_met, sl_met, rd_call, sl_call, rd_comp, sl_comp, RG.start, T.chk, T.bind, outV, getR, getV, cmpOp, binOp, isiOp, f_len, f_abs, f_sum, f_all, f_tuple, f_sorted, f_repr, m_count, fnLen, fnAbs, fnTuple, asgT, asgT.asgL, wipeR, itOp, truth, plOf, small, RG.setP, frs, isFr, ownOf, getO, subOp, plainI, notOw, notOwA, augOp, enumOp, zipOp, intOf, sliOp, revOp, od1, pw]
theorem tail_b {p d n l : Nat} (hp : p ≤ d) (hd : d ≤ 6) (hn : n ≤ 40) : tailP p d n l < 2 ^ 9000 := big480 (Nat.le_trans (up_b (by omega) (by omega) hn (n + 1) (by omega)) (Nat.mul_le_mul_right _ (by omega)))
theorem dn_b {d n : Nat} (hd : d ≤ 6) (hn : n ≤ 41) : d ^ n < 2 ^ 9000 := Nat.lt_of_le_of_lt (pw_le hd hn) (by decide +kernel)
theorem s_odds_from (m : Nat) {p d n l : Nat} (hp : p ≤ d) (h1 : 1 ≤ d) (hd : d ≤ 6) (hl : l ≤ n) (hn1 : 1 ≤ n) (hn : n ≤ 40) : callF tab (m + 4) "odds_from" [.va (odT p d), .va (.int (n : Int)), .va (.int (l : Int))] = .ret (qt (tailP p d n l) (d ^ n)) := by
  have c1 := s_check_odds m hp h1 (by omega)
  have c2 := s_check_counts m hl hn1 (by omega)
  have c3 := s_rows_from (m + 1) (l := l) hp hd hn
  have c4 := s_quotient (m + 2) (tail_b (l := l) hp hd hn) (dn_b hd (by omega : n ≤ 41)) (.inr (Nat.pow_pos (by omega)))
  rw [u_odds_from, go_def rfl]
  unfold F_odds_from F_odds_from_b
  generalize qt (tailP p d n l) (d ^ n) = z at *
  generalize tailP p d n l = t at *
  generalize d ^ n = w at *
  refine (go_exe (d := .none) (by simp [runF, ex, ev, evT, evB, evV, evA, evC, evO, evI, getS, retV, rd_v, sl_v, rd_non, sl_non, rd_int, sl_int, rd_bl, sl_bl, rd_str, sl_str, rd_glob, sl_glob, rd_neg, sl_neg, rd_vnot, sl_vnot, rd_bin, sl_bin, rd_cmp, sl_cmp, rd_isN, sl_isN, rd_notN, sl_notN, rd_chn, sl_chn, rd_vbo, sl_vbo, rd_ife, sl_ife, rd_tup, sl_tup, rd_lst, sl_lst, rd_sub, sl_sub, rd_sli, sl_sli, rd_rev, sl_rev, rd_isi, sl_isi, rd_fn, sl_fn, rd_met, sl_met, rd_call, sl_call, rd_comp, sl_comp, RG.start, T.chk, T.bind, outV, getR, getV, cmpOp, binOp, isiOp, f_len, f_abs, f_sum, f_all, f_tuple, f_sorted, f_repr, m_count, fnLen, fnAbs, fnTuple, asgT, asgT.asgL, wipeR, itOp, truth, plOf, small, RG.setP, frs, isFr, ownOf, getO, subOp, plainI, notOw, notOwA, augOp, enumOp, zipOp, intOf, sliOp, revOp, c1])).trans ?_
  refine (go_exe (d := .none) (by simp [runF, ex, ev, evT, evB, evV, evA, evC, evO, evI, getS, retV, rd_v, sl_v, rd_non, sl_non, rd_int, sl_int, rd_bl, sl_bl, rd_str, sl_str, rd_glob, sl_glob, rd_neg, sl_neg, rd_vnot, sl_vnot, rd_bin, sl_bin, rd_cmp, sl_cmp, rd_isN, sl_isN, rd_notN, sl_notN, rd_chn, sl_chn, rd_vbo, sl_vbo, rd_ife, sl_ife, rd_tup, sl_tup, rd_lst, sl_lst, rd_sub, sl_sub, rd_sli, sl_sli, rd_rev, sl_rev, rd_isi, sl_isi, rd_fn, sl_fn, rd_met, sl_met, rd_call, sl_call, rd_comp, sl_comp, RG.start, T.chk, T.bind, outV, getR, getV, cmpOp, binOp, isiOp, f_len, f_abs, f_sum, f_all, f_tuple, f_sorted, f_repr, m_count, fnLen, fnAbs, fnTuple, asgT, asgT.asgL, wipeR, itOp, truth, plOf, small, RG.setP, frs, isFr, ownOf, getO, subOp, plainI, notOw, notOwA, augOp, enumOp, zipOp, intOf, sliOp, revOp, c2])).trans ?_
  refine (go_asgT (d := .tuple [.int (t : Int), .int (w : Int)]) (ρ' := [.va (odT p d), .va (.int n), .va (.int l), .va (.int t), .va (.int w)]) (by simp [runF, ex, ev, evT, evB, evV, evA, evC, evO, evI, getS, retV, rd_v, sl_v, rd_non, sl_non, rd_int, sl_int, rd_bl, sl_bl, rd_str, sl_str, rd_glob, sl_glob, rd_neg, sl_neg, rd_vnot, sl_vnot, rd_bin, sl_bin, rd_cmp, sl_cmp, rd_isN, sl_isN, rd_notN, sl_notN, rd_chn, sl_chn, rd_vbo, sl_vbo, rd_ife, sl_ife, rd_tup, sl_tup, rd_lst, sl_lst, rd_sub, sl_sub, rd_sli, sl_sli, rd_rev, sl_rev, rd_isi, sl_isi, rd_fn, sl_fn, rd_met, sl_met, rd_call, sl_call, rd_comp, sl_comp, RG.start, T.chk, T.bind, outV, getR, getV, cmpOp, binOp, isiOp, f_len, f_abs, f_sum, f_all, f_tuple, f_sorted, f_repr, m_count, fnLen, fnAbs, fnTuple, asgT, asgT.asgL, wipeR, itOp, truth, plOf, small, RG.setP, frs, isFr, ownOf, getO, subOp, plainI, notOw, notOwA, augOp, enumOp, zipOp, intOf, sliOp, revOp, c3]) (by simp [runF, ex, ev, evT, evB, evV, evA, evC, evO, evI, getS, retV, rd_v, sl_v, rd_non, sl_non, rd_int, sl_int, rd_bl, sl_bl, rd_str, sl_str, rd_glob, sl_glob, rd_neg, sl_neg, rd_vnot, sl_vnot, rd_bin, sl_bin, rd_cmp, sl_cmp, rd_isN, sl_isN, rd_notN, sl_notN, rd_chn, sl_chn, rd_vbo, sl_vbo, rd_ife, sl_ife, rd_tup, sl_tup, rd_lst, sl_lst, rd_sub, sl_sub, rd_sli, sl_sli, rd_rev, sl_rev, rd_isi, sl_isi, rd_fn, sl_fn, rd_met, sl_met, rd_call, sl_call, rd_comp, sl_comp, RG.start, T.chk, T.bind, outV, getR, getV, cmpOp, binOp, isiOp, f_len, f_abs, f_sum, f_all, f_tuple, f_sorted, f_repr, m_count, fnLen, fnAbs, fnTuple, asgT, asgT.asgL, wipeR, itOp, truth, plOf, small, RG.setP, frs, isFr, ownOf, getO, subOp, plainI, notOw, notOwA, augOp, enumOp, zipOp, intOf, sliOp, revOp])).trans ?_
  refine go_ret ?_
  simp [runF, ex, ev, evT, evB, evV, evA, evC, evO, evI, getS, retV, rd_v, sl_v, rd_non, sl_non, rd_int, sl_int, rd_bl, sl_bl, rd_str, sl_str, rd_glob, sl_glob, rd_neg, sl_neg, rd_vnot, sl_vnot, rd_bin, sl_bin, rd_cmp, sl_cmp, rd_isN, sl_isN, rd_notN, sl_notN, rd_chn, sl_chn, rd_vbo, sl_vbo, rd_ife, sl_ife, rd_tup, sl_tup, rd_lst, sl_lst, rd_sub, sl_sub, rd_sli, sl_sli, rd_rev, sl_rev, rd_isi, sl_isi, rd_fn, sl_fn, rd_met, sl_met, rd_call, sl_call, rd_comp, sl_comp, RG.start, T.chk, T.bind, outV, getR, getV, cmpOp, binOp, isiOp, f_len, f_abs, f_sum, f_all, f_tuple, f_sorted, f_repr, m_count, fnLen, fnAbs, fnTuple, asgT, asgT.asgL, wipeR, itOp, truth, plOf, small, RG.setP, frs, isFr, ownOf, getO, subOp, plainI, notOw, notOwA, augOp, enumOp, zipOp, intOf, sliOp, revOp, c4]
end K63
end

section
set_option Elab.async false
set_option linter.all false
set_option maxRecDepth 100000
set_option maxHeartbeats 4000000
/-! Odds: one year more, the fewest years, a claim. -/
namespace K63
open PySem RG
abbrev nL (ws : List Nat) : List PyData := ws.map fun k : Nat => PyData.int (k : Int)
theorem zw_zip {α β γ : Type} (f : α → β → γ) : ∀ (xs : List α) (ys : List β), List.zipWith f xs ys = (List.zip xs ys).map fun ab => f ab.1 ab.2
  | [], _ => by simp
  | _ :: _, [] => by simp
  | x :: xs, y :: ys => by simp [zw_zip f xs ys]
theorem atI_last {α : Type} {xs : List α} (h : xs ≠ []) : L2.atI xs (-1) = xs.getLast? := by
  have hl : 0 < xs.length := List.length_pos_iff.mpr h
  have e : L2.ixN xs.length (-1) = some (xs.length - 1) := by
    unfold L2.ixN
    simp
    omega
  unfold L2.atI
  rw [e]
  show xs[xs.length - 1]? = _
  rw [List.getLast?_eq_getElem?]
theorem at_last {ws : List Nat} (h : ws ≠ []) : atD (nL ws) (-1) = .ret (.int (ws.getLastD 0 : Nat)) := by
  have e := atI_last (xs := nL ws) (fun z => h (List.map_eq_nil_iff.mp z))
  have e2 : (nL ws).getLast? = some (PyData.int (ws.getLastD 0 : Nat)) := by
    rw [List.getLast?_map, List.getLast?_eq_some_getLast h, List.getLastD_eq_getLast?, List.getLast?_eq_some_getLast h]
    rfl
  show (match L2.atI (nL ws) (-1) with | some d => T.ret d | none => .fail) = _
  rw [e, e2]
theorem s_one_more (n : Nat) {p d met dn : Nat} {ws : List Nat} (hp : p ≤ d) (hd : d ≤ 6) (hw : ws ≠ []) (hl : ws.length ≤ 100) :
    callF tab (n + 1) "one_more" [.va (odT p d), .va (.list (nL ws)), .va (.int (met : Int)), .va (.int (dn : Int))] = .ret (.tuple [.list (nL (stepW p (d - p) ws)), .int (met * d + ws.getLastD 0 * p : Nat), .int (dn * d : Nat)]) := by
  rw [u_one_more, go_def rfl]
  unfold F_one_more F_one_more_b
  have al := at_last hw
  have o1 : ∀ x : Int, mulOk x (d : Int) = true := fun x => mulOk_r (by omega)
  have o2 : ∀ x : Int, mulOk x (p : Int) = true := fun x => mulOk_r (by omega)
  have o3 : ∀ x : Int, mulOk x ((d : Int) - (p : Int)) = true := fun x => mulOk_r (by omega)
  have e1 : ((met * d + ws.getLastD 0 * p : Nat) : Int) = (met : Int) * (d : Int) + ((ws.getLastD 0 : Nat) : Int) * (p : Int) := by rw [Int.natCast_add, Int.natCast_mul, Int.natCast_mul]
  have c0 : ∀ m2, ev (callF tab n) C_one_more_0 [.va (odT p d), .va (.list (nL ws)), m2, .va (.int (dn : Int)), .no, .no, .no] = .ret (.list (nL (stepW p (d - p) ws))) := fun m2 => by
    have ez : evI (callF tab n) (.izip (.cons (.v 1) (.cons (.bin .Add (.lst (.cons (.int 0) .nil)) (.v 1)) .nil))) [.va (odT p d), .va (.list (nL ws)), m2, .va (.int (dn : Int)), .no, .no, .no] = .ret ((List.zip ws (0 :: ws)).map fun ab => PyData.tuple [.int ((ab.1 : Nat) : Int), .int ((ab.2 : Nat) : Int)]) := by
      have e3 : (List.zip ws (0 :: ws)).map (fun ab => PyData.tuple [.int ((ab.1 : Nat) : Int), .int ((ab.2 : Nat) : Int)]) = List.zipWith (fun x y => PyData.tuple [x, y]) (nL ws) (.int 0 :: nL ws) := by
        rw [← zw_zip (fun (a b : Nat) => PyData.tuple [.int (a : Int), .int (b : Int)])]
        have e4 : (PyData.int 0 :: nL ws) = nL (0 :: ws) := rfl
        rw [e4, List.zipWith_map]
      rw [e3]
      have hs : 1 + ws.length ≤ 16777216 := by omega
      generalize hz : (fun x y => PyData.tuple [x, y]) = f
      simp [runF, ex, ev, evT, evB, evV, evA, evC, evO, evI, getS, retV, rd_v, sl_v, rd_non, sl_non, rd_int, sl_int, rd_bl, sl_bl, rd_str, sl_str, rd_glob, sl_glob, rd_neg, sl_neg, rd_vnot, sl_vnot, rd_bin, sl_bin, rd_cmp, sl_cmp, rd_isN, sl_isN, rd_notN, sl_notN, rd_chn, sl_chn, rd_vbo, sl_vbo, rd_ife, sl_ife, rd_tup, sl_tup, rd_lst, sl_lst, rd_sub, sl_sub, rd_sli, sl_sli, rd_rev, sl_rev, rd_isi, sl_isi, rd_fn, sl_fn, rd_met, sl_met, rd_call, sl_call, rd_comp, sl_comp, RG.start, T.chk, T.bind, outV, getR, getV, cmpOp, binOp, isiOp, f_len, f_abs, f_sum, f_all, f_tuple, f_sorted, f_repr, m_count, fnLen, fnAbs, fnTuple, asgT, asgT.asgL, wipeR, itOp, truth, plOf, small, RG.setP, frs, isFr, ownOf, getO, subOp, plainI, notOw, notOwA, augOp, enumOp, zipOp, intOf, sliOp, revOp, hs, -List.zipWith_map]
      rw [hz]
    have er : nL (stepW p (d - p) ws) = (List.zip ws (0 :: ws)).map fun ab => PyData.int ((ab.1 * (d - p) + ab.2 * p : Nat) : Int) := by
      unfold nL stepW
      rw [zw_zip, List.map_map]
      rfl
    rw [er]
    refine e_comp ez (lcG_over fun ab _ => ?_)
    obtain ⟨a, b⟩ := ab
    have e5 : ((a * (d - p) + b * p : Nat) : Int) = (a : Int) * ((d : Int) - (p : Int)) + (b : Int) * (p : Int) := by rw [Int.natCast_add, Int.natCast_mul, Int.natCast_mul, Int.natCast_sub hp]
    show _ = T.ret (some (PyData.int ((a * (d - p) + b * p : Nat) : Int)))
    rw [e5]
    simp [runF, ex, ev, evT, evB, evV, evA, evC, evO, evI, getS, retV, rd_v, sl_v, rd_non, sl_non, rd_int, sl_int, rd_bl, sl_bl, rd_str, sl_str, rd_glob, sl_glob, rd_neg, sl_neg, rd_vnot, sl_vnot, rd_bin, sl_bin, rd_cmp, sl_cmp, rd_isN, sl_isN, rd_notN, sl_notN, rd_chn, sl_chn, rd_vbo, sl_vbo, rd_ife, sl_ife, rd_tup, sl_tup, rd_lst, sl_lst, rd_sub, sl_sub, rd_sli, sl_sli, rd_rev, sl_rev, rd_isi, sl_isi, rd_fn, sl_fn, rd_met, sl_met, rd_call, sl_call, rd_comp, sl_comp, RG.start, T.chk, T.bind, outV, getR, getV, cmpOp, binOp, isiOp, f_len, f_abs, f_sum, f_all, f_tuple, f_sorted, f_repr, m_count, fnLen, fnAbs, fnTuple, asgT, asgT.asgL, wipeR, itOp, truth, plOf, small, RG.setP, frs, isFr, ownOf, getO, subOp, plainI, notOw, notOwA, augOp, enumOp, zipOp, intOf, sliOp, revOp, lcF, od0, od1, o2, o3]
  rw [e1]
  generalize ws.getLastD 0 = la at *
  generalize stepW p (d - p) ws = w2 at *
  generalize nL w2 = w3 at *
  generalize nL ws = w4 at *
  refine (go_asgS (d := .int ((met : Int) * (d : Int) + (la : Int) * (p : Int))) (ρ2 := [.va (odT p d), .va (.list w4), .va (.int ((met : Int) * (d : Int) + (la : Int) * (p : Int))), .va (.int (dn : Int)), .no, .no, .no]) (by simp [runF, ex, ev, evT, evB, evV, evA, evC, evO, evI, getS, retV, rd_v, sl_v, rd_non, sl_non, rd_int, sl_int, rd_bl, sl_bl, rd_str, sl_str, rd_glob, sl_glob, rd_neg, sl_neg, rd_vnot, sl_vnot, rd_bin, sl_bin, rd_cmp, sl_cmp, rd_isN, sl_isN, rd_notN, sl_notN, rd_chn, sl_chn, rd_vbo, sl_vbo, rd_ife, sl_ife, rd_tup, sl_tup, rd_lst, sl_lst, rd_sub, sl_sub, rd_sli, sl_sli, rd_rev, sl_rev, rd_isi, sl_isi, rd_fn, sl_fn, rd_met, sl_met, rd_call, sl_call, rd_comp, sl_comp, RG.start, T.chk, T.bind, outV, getR, getV, cmpOp, binOp, isiOp, f_len, f_abs, f_sum, f_all, f_tuple, f_sorted, f_repr, m_count, fnLen, fnAbs, fnTuple, asgT, asgT.asgL, wipeR, itOp, truth, plOf, small, RG.setP, frs, isFr, ownOf, getO, subOp, plainI, notOw, notOwA, augOp, enumOp, zipOp, intOf, sliOp, revOp, al, od0, od1, o1, o2]) (by simp [runF, ex, ev, evT, evB, evV, evA, evC, evO, evI, getS, retV, rd_v, sl_v, rd_non, sl_non, rd_int, sl_int, rd_bl, sl_bl, rd_str, sl_str, rd_glob, sl_glob, rd_neg, sl_neg, rd_vnot, sl_vnot, rd_bin, sl_bin, rd_cmp, sl_cmp, rd_isN, sl_isN, rd_notN, sl_notN, rd_chn, sl_chn, rd_vbo, sl_vbo, rd_ife, sl_ife, rd_tup, sl_tup, rd_lst, sl_lst, rd_sub, sl_sub, rd_sli, sl_sli, rd_rev, sl_rev, rd_isi, sl_isi, rd_fn, sl_fn, rd_met, sl_met, rd_call, sl_call, rd_comp, sl_comp, RG.start, T.chk, T.bind, outV, getR, getV, cmpOp, binOp, isiOp, f_len, f_abs, f_sum, f_all, f_tuple, f_sorted, f_repr, m_count, fnLen, fnAbs, fnTuple, asgT, asgT.asgL, wipeR, itOp, truth, plOf, small, RG.setP, frs, isFr, ownOf, getO, subOp, plainI, notOw, notOwA, augOp, enumOp, zipOp, intOf, sliOp, revOp])).trans ?_
  refine (go_asgS (ρ2 := [.va (odT p d), .va (.list w4), .va (.int ((met : Int) * (d : Int) + (la : Int) * (p : Int))), .va (.int (dn : Int)), .va (.list w3), .no, .no]) (c0 _) (by simp [runF, ex, ev, evT, evB, evV, evA, evC, evO, evI, getS, retV, rd_v, sl_v, rd_non, sl_non, rd_int, sl_int, rd_bl, sl_bl, rd_str, sl_str, rd_glob, sl_glob, rd_neg, sl_neg, rd_vnot, sl_vnot, rd_bin, sl_bin, rd_cmp, sl_cmp, rd_isN, sl_isN, rd_notN, sl_notN, rd_chn, sl_chn, rd_vbo, sl_vbo, rd_ife, sl_ife, rd_tup, sl_tup, rd_lst, sl_lst, rd_sub, sl_sub, rd_sli, sl_sli, rd_rev, sl_rev, rd_isi, sl_isi, rd_fn, sl_fn, rd_met, sl_met, rd_call, sl_call, rd_comp, sl_comp, RG.start, T.chk, T.bind, outV, getR, getV, cmpOp, binOp, isiOp, f_len, f_abs, f_sum, f_all, f_tuple, f_sorted, f_repr, m_count, fnLen, fnAbs, fnTuple, asgT, asgT.asgL, wipeR, itOp, truth, plOf, small, RG.setP, frs, isFr, ownOf, getO, subOp, plainI, notOw, notOwA, augOp, enumOp, zipOp, intOf, sliOp, revOp])).trans ?_
  refine go_ret ?_
  simp [runF, ex, ev, evT, evB, evV, evA, evC, evO, evI, getS, retV, rd_v, sl_v, rd_non, sl_non, rd_int, sl_int, rd_bl, sl_bl, rd_str, sl_str, rd_glob, sl_glob, rd_neg, sl_neg, rd_vnot, sl_vnot, rd_bin, sl_bin, rd_cmp, sl_cmp, rd_isN, sl_isN, rd_notN, sl_notN, rd_chn, sl_chn, rd_vbo, sl_vbo, rd_ife, sl_ife, rd_tup, sl_tup, rd_lst, sl_lst, rd_sub, sl_sub, rd_sli, sl_sli, rd_rev, sl_rev, rd_isi, sl_isi, rd_fn, sl_fn, rd_met, sl_met, rd_call, sl_call, rd_comp, sl_comp, RG.start, T.chk, T.bind, outV, getR, getV, cmpOp, binOp, isiOp, f_len, f_abs, f_sum, f_all, f_tuple, f_sorted, f_repr, m_count, fnLen, fnAbs, fnTuple, asgT, asgT.asgL, wipeR, itOp, truth, plOf, small, RG.setP, frs, isFr, ownOf, getO, subOp, plainI, notOw, notOwA, augOp, enumOp, zipOp, intOf, sliOp, revOp, od1, o1]
/-! the fewest years -/
theorem ex_cons {Φ : Calls} {s r : Sx} {ρ ρ' : Rho} {x : T (Fl × Rho)} (h : ex Φ s ρ = .ret (.nx, ρ')) (h2 : ex Φ r ρ' = x) : ex Φ (.cons s r) ρ = x := by
  show ((ex Φ s ρ).bind _) = _
  rw [h]
  exact h2
theorem ex_asgT {Φ : Calls} {tg : Tg} {e : E} {ρ ρ' : Rho} {d : PyData} (h : ev Φ e ρ = .ret d) (h2 : asgT tg d ρ = .ret ρ') : ex Φ (.asgT tg e) ρ = .ret (.nx, ρ') := by
  show ((ev Φ e ρ).bind _) = _
  rw [h]
  show ((asgT tg d ρ).bind _) = _
  rw [h2]
  rfl
def contF (p d l L k : Nat) : Bool := decide (k < l) || (decide ((fwS p d l k).2 * 10 < L * d ^ k) && decide (k < 200))
abbrev fwR (p d l L k : Nat) : Rho := [.va (odT p d), .va (.int (l : Int)), .va (odT L 10), .va (.list (nL (fwS p d l k).1)), .va (.int (k : Int)), .va (.int (d ^ k : Nat)), .va (.int ((fwS p d l k).2 : Nat))]
theorem lt_cast {a b c e : Nat} : decide ((a : Int) * (b : Int) < (c : Int) * (e : Int)) = decide (a * b < c * e) := by
  congr 1
  rw [← Int.natCast_mul, ← Int.natCast_mul]
  exact propext Int.ofNat_lt
theorem fw_len (p d l : Nat) (h1 : 1 ≤ l) : ∀ k, (fwS p d l k).1.length = l
  | 0 => by
    show (1 :: List.replicate (l - 1) 0).length = l
    rw [List.length_cons, List.length_replicate]
    omega
  | k + 1 => by
    show (stepW p (d - p) (fwS p d l k).1).length = l
    unfold stepW
    rw [List.length_zipWith, List.length_cons, fw_len p d l h1 k]
    omega
theorem fw_cond (n : Nat) {p d l L k : Nat} (hL : L ≤ 10) : evT (callF tab n) (.tbo .Or (.cons (.tcmp .Lt (.v 4) (.v 1)) (.cons (.tbo .And (.cons (.tcmp .Lt (.bin .Mult (.v 6) (.sub (.v 2) (.int 1))) (.bin .Mult (.sub (.v 2) (.int 0)) (.v 5))) (.cons (.tcmp .Lt (.v 4) (.glob "MAX_YEARS" 200)) .nil))) .nil))) (fwR p d l L k) = .ret (contF p d l L k) := by
  unfold contF fwR
  have o1 : ∀ x : Int, mulOk x ((10 : Nat) : Int) = true := fun x => mulOk_r (by omega)
  have o2 : ∀ x : Int, mulOk (L : Int) x = true := fun x => mulOk_l (by omega)
  have hc := lt_cast (a := (fwS p d l k).2) (b := 10) (c := L) (e := d ^ k)
  have g0 := od0 L 10
  have g1 := od1 L 10
  generalize d ^ k = w at *
  generalize (fwS p d l k).2 = met at *
  generalize nL (fwS p d l k).1 = ws at *
  have e10 : ((10 : Nat) : Int) = 10 := rfl
  rw [e10] at hc g0 g1
  simp only [e10] at o1
  by_cases z : k < l
  · simp [runF, ex, ev, evT, evB, evV, evA, evC, evO, evI, getS, retV, rd_v, sl_v, rd_non, sl_non, rd_int, sl_int, rd_bl, sl_bl, rd_str, sl_str, rd_glob, sl_glob, rd_neg, sl_neg, rd_vnot, sl_vnot, rd_bin, sl_bin, rd_cmp, sl_cmp, rd_isN, sl_isN, rd_notN, sl_notN, rd_chn, sl_chn, rd_vbo, sl_vbo, rd_ife, sl_ife, rd_tup, sl_tup, rd_lst, sl_lst, rd_sub, sl_sub, rd_sli, sl_sli, rd_rev, sl_rev, rd_isi, sl_isi, rd_fn, sl_fn, rd_met, sl_met, rd_call, sl_call, rd_comp, sl_comp, RG.start, T.chk, T.bind, outV, getR, getV, cmpOp, binOp, isiOp, f_len, f_abs, f_sum, f_all, f_tuple, f_sorted, f_repr, m_count, fnLen, fnAbs, fnTuple, asgT, asgT.asgL, wipeR, itOp, truth, plOf, small, RG.setP, frs, isFr, ownOf, getO, subOp, plainI, notOw, notOwA, augOp, enumOp, zipOp, intOf, sliOp, revOp, z]
  · by_cases z2 : met * 10 < L * w
    · rw [decide_eq_true z2] at hc
      have hc := of_decide_eq_true hc
      by_cases z3 : k < 200
      · simp [runF, ex, ev, evT, evB, evV, evA, evC, evO, evI, getS, retV, rd_v, sl_v, rd_non, sl_non, rd_int, sl_int, rd_bl, sl_bl, rd_str, sl_str, rd_glob, sl_glob, rd_neg, sl_neg, rd_vnot, sl_vnot, rd_bin, sl_bin, rd_cmp, sl_cmp, rd_isN, sl_isN, rd_notN, sl_notN, rd_chn, sl_chn, rd_vbo, sl_vbo, rd_ife, sl_ife, rd_tup, sl_tup, rd_lst, sl_lst, rd_sub, sl_sub, rd_sli, sl_sli, rd_rev, sl_rev, rd_isi, sl_isi, rd_fn, sl_fn, rd_met, sl_met, rd_call, sl_call, rd_comp, sl_comp, RG.start, T.chk, T.bind, outV, getR, getV, cmpOp, binOp, isiOp, f_len, f_abs, f_sum, f_all, f_tuple, f_sorted, f_repr, m_count, fnLen, fnAbs, fnTuple, asgT, asgT.asgL, wipeR, itOp, truth, plOf, small, RG.setP, frs, isFr, ownOf, getO, subOp, plainI, notOw, notOwA, augOp, enumOp, zipOp, intOf, sliOp, revOp, z, z2, z3, g0, g1, o1, o2, hc, show (k : Int) < 200 by omega]
      · simp [runF, ex, ev, evT, evB, evV, evA, evC, evO, evI, getS, retV, rd_v, sl_v, rd_non, sl_non, rd_int, sl_int, rd_bl, sl_bl, rd_str, sl_str, rd_glob, sl_glob, rd_neg, sl_neg, rd_vnot, sl_vnot, rd_bin, sl_bin, rd_cmp, sl_cmp, rd_isN, sl_isN, rd_notN, sl_notN, rd_chn, sl_chn, rd_vbo, sl_vbo, rd_ife, sl_ife, rd_tup, sl_tup, rd_lst, sl_lst, rd_sub, sl_sub, rd_sli, sl_sli, rd_rev, sl_rev, rd_isi, sl_isi, rd_fn, sl_fn, rd_met, sl_met, rd_call, sl_call, rd_comp, sl_comp, RG.start, T.chk, T.bind, outV, getR, getV, cmpOp, binOp, isiOp, f_len, f_abs, f_sum, f_all, f_tuple, f_sorted, f_repr, m_count, fnLen, fnAbs, fnTuple, asgT, asgT.asgL, wipeR, itOp, truth, plOf, small, RG.setP, frs, isFr, ownOf, getO, subOp, plainI, notOw, notOwA, augOp, enumOp, zipOp, intOf, sliOp, revOp, z, z2, z3, g0, g1, o1, o2, hc, show ¬ (k : Int) < 200 by omega]
    · rw [decide_eq_false z2] at hc
      have hc := of_decide_eq_false hc
      simp [runF, ex, ev, evT, evB, evV, evA, evC, evO, evI, getS, retV, rd_v, sl_v, rd_non, sl_non, rd_int, sl_int, rd_bl, sl_bl, rd_str, sl_str, rd_glob, sl_glob, rd_neg, sl_neg, rd_vnot, sl_vnot, rd_bin, sl_bin, rd_cmp, sl_cmp, rd_isN, sl_isN, rd_notN, sl_notN, rd_chn, sl_chn, rd_vbo, sl_vbo, rd_ife, sl_ife, rd_tup, sl_tup, rd_lst, sl_lst, rd_sub, sl_sub, rd_sli, sl_sli, rd_rev, sl_rev, rd_isi, sl_isi, rd_fn, sl_fn, rd_met, sl_met, rd_call, sl_call, rd_comp, sl_comp, RG.start, T.chk, T.bind, outV, getR, getV, cmpOp, binOp, isiOp, f_len, f_abs, f_sum, f_all, f_tuple, f_sorted, f_repr, m_count, fnLen, fnAbs, fnTuple, asgT, asgT.asgL, wipeR, itOp, truth, plOf, small, RG.setP, frs, isFr, ownOf, getO, subOp, plainI, notOw, notOwA, augOp, enumOp, zipOp, intOf, sliOp, revOp, z, z2, g0, g1, o1, o2, hc]
theorem fw_step (n : Nat) {p d l L k : Nat} (hp : p ≤ d) (hd : d ≤ 6) (h1 : 1 ≤ l) (hl : l ≤ 100) : ex (callF tab (n + 1)) L_fewest_years_0 (fwR p d l L k) = .ret (.nx, fwR p d l L (k + 1)) := by
  have hw := fw_len p d l h1 k
  have q := s_one_more n (met := (fwS p d l k).2) (dn := d ^ k) (ws := (fwS p d l k).1) hp hd (fun z => by rw [z] at hw; simp at hw; omega) (by omega)
  have e : fwR p d l L (k + 1) = [.va (odT p d), .va (.int (l : Int)), .va (odT L 10), .va (.list (nL (stepW p (d - p) (fwS p d l k).1))), .va (.int ((k : Int) + 1)), .va (.int (d ^ k * d : Nat)), .va (.int ((fwS p d l k).2 * d + (fwS p d l k).1.getLastD 0 * p : Nat))] := rfl
  rw [e]
  unfold fwR
  generalize nL (stepW p (d - p) (fwS p d l k).1) = w1 at *
  generalize (fwS p d l k).2 * d + (fwS p d l k).1.getLastD 0 * p = w2 at *
  generalize d ^ k * d = w3 at *
  generalize d ^ k = w4 at *
  generalize (fwS p d l k).2 = w5 at *
  generalize nL (fwS p d l k).1 = w6 at *
  unfold L_fewest_years_0
  refine ex_cons (ρ' := [.va (odT p d), .va (.int (l : Int)), .va (odT L 10), .va (.list w6), .va (.int ((k : Int) + 1)), .va (.int (w4 : Int)), .va (.int (w5 : Int))]) (by simp [runF, ex, ev, evT, evB, evV, evA, evC, evO, evI, getS, retV, rd_v, sl_v, rd_non, sl_non, rd_int, sl_int, rd_bl, sl_bl, rd_str, sl_str, rd_glob, sl_glob, rd_neg, sl_neg, rd_vnot, sl_vnot, rd_bin, sl_bin, rd_cmp, sl_cmp, rd_isN, sl_isN, rd_notN, sl_notN, rd_chn, sl_chn, rd_vbo, sl_vbo, rd_ife, sl_ife, rd_tup, sl_tup, rd_lst, sl_lst, rd_sub, sl_sub, rd_sli, sl_sli, rd_rev, sl_rev, rd_isi, sl_isi, rd_fn, sl_fn, rd_met, sl_met, rd_call, sl_call, rd_comp, sl_comp, RG.start, T.chk, T.bind, outV, getR, getV, cmpOp, binOp, isiOp, f_len, f_abs, f_sum, f_all, f_tuple, f_sorted, f_repr, m_count, fnLen, fnAbs, fnTuple, asgT, asgT.asgL, wipeR, itOp, truth, plOf, small, RG.setP, frs, isFr, ownOf, getO, subOp, plainI, notOw, notOwA, augOp, enumOp, zipOp, intOf, sliOp, revOp]) (ex_cons (ex_asgT (d := .tuple [.list w1, .int (w2 : Int), .int (w3 : Int)]) ?_ (by simp [runF, ex, ev, evT, evB, evV, evA, evC, evO, evI, getS, retV, rd_v, sl_v, rd_non, sl_non, rd_int, sl_int, rd_bl, sl_bl, rd_str, sl_str, rd_glob, sl_glob, rd_neg, sl_neg, rd_vnot, sl_vnot, rd_bin, sl_bin, rd_cmp, sl_cmp, rd_isN, sl_isN, rd_notN, sl_notN, rd_chn, sl_chn, rd_vbo, sl_vbo, rd_ife, sl_ife, rd_tup, sl_tup, rd_lst, sl_lst, rd_sub, sl_sub, rd_sli, sl_sli, rd_rev, sl_rev, rd_isi, sl_isi, rd_fn, sl_fn, rd_met, sl_met, rd_call, sl_call, rd_comp, sl_comp, RG.start, T.chk, T.bind, outV, getR, getV, cmpOp, binOp, isiOp, f_len, f_abs, f_sum, f_all, f_tuple, f_sorted, f_repr, m_count, fnLen, fnAbs, fnTuple, asgT, asgT.asgL, wipeR, itOp, truth, plOf, small, RG.setP, frs, isFr, ownOf, getO, subOp, plainI, notOw, notOwA, augOp, enumOp, zipOp, intOf, sliOp, revOp])) rfl)
  simp [runF, ex, ev, evT, evB, evV, evA, evC, evO, evI, getS, retV, rd_v, sl_v, rd_non, sl_non, rd_int, sl_int, rd_bl, sl_bl, rd_str, sl_str, rd_glob, sl_glob, rd_neg, sl_neg, rd_vnot, sl_vnot, rd_bin, sl_bin, rd_cmp, sl_cmp, rd_isN, sl_isN, rd_notN, sl_notN, rd_chn, sl_chn, rd_vbo, sl_vbo, rd_ife, sl_ife, rd_tup, sl_tup, rd_lst, sl_lst, rd_sub, sl_sub, rd_sli, sl_sli, rd_rev, sl_rev, rd_isi, sl_isi, rd_fn, sl_fn, rd_met, sl_met, rd_call, sl_call, rd_comp, sl_comp, RG.start, T.chk, T.bind, outV, getR, getV, cmpOp, binOp, isiOp, f_len, f_abs, f_sum, f_all, f_tuple, f_sorted, f_repr, m_count, fnLen, fnAbs, fnTuple, asgT, asgT.asgL, wipeR, itOp, truth, plOf, small, RG.setP, frs, isFr, ownOf, getO, subOp, plainI, notOw, notOwA, augOp, enumOp, zipOp, intOf, sliOp, revOp, q]
theorem fw_run (n : Nat) {p d l L : Nat} (hp : p ≤ d) (hd : d ≤ 6) (h1 : 1 ≤ l) (hl : l ≤ 100) (hL : L ≤ 10) : ∀ (j k fuel : Nat), (∀ i, k ≤ i → i < k + j → contF p d l L i = true) → contF p d l L (k + j) = false → j < fuel →
    whG (evT (callF tab (n + 1)) (.tbo .Or (.cons (.tcmp .Lt (.v 4) (.v 1)) (.cons (.tbo .And (.cons (.tcmp .Lt (.bin .Mult (.v 6) (.sub (.v 2) (.int 1))) (.bin .Mult (.sub (.v 2) (.int 0)) (.v 5))) (.cons (.tcmp .Lt (.v 4) (.glob "MAX_YEARS" 200)) .nil))) .nil)))) (ex (callF tab (n + 1)) L_fewest_years_0) fuel (fwR p d l L k) = .ret (.nx, fwR p d l L (k + j)) := by
  intro j
  induction j with
  | zero =>
    intro k fuel _ h0 hf
    obtain ⟨m, rfl⟩ : ∃ m, fuel = m + 1 := ⟨fuel - 1, by omega⟩
    rw [Nat.add_zero] at h0 ⊢
    exact whG_no ((fw_cond (n + 1) hL).trans (congrArg T.ret h0))
  | succ j ih =>
    intro k fuel h h0 hf
    obtain ⟨m, rfl⟩ : ∃ m, fuel = m + 1 := ⟨fuel - 1, by omega⟩
    rw [whG_yes ((fw_cond (n + 1) hL).trans (congrArg T.ret (h k (Nat.le_refl _) (by omega)))) (fw_step n hp hd h1 hl)]
    have e : k + (j + 1) = k + 1 + j := by omega
    rw [e] at h0 ⊢
    exact ih (k + 1) m (fun i h2 h3 => h i (by omega) (by omega)) h0 (by omega)
theorem least_stop (c : Nat → Bool) : ∀ N, (∃ M, M ≤ N ∧ c M = false) → ∃ K, K ≤ N ∧ c K = false ∧ ∀ i, i < K → c i = true
  | 0, ⟨M, h1, h2⟩ => ⟨0, Nat.le_refl _, by rw [← h2]; congr 1; omega, fun i hi => absurd hi (Nat.not_lt_zero i)⟩
  | N + 1, ⟨M, h1, h2⟩ => by
    by_cases z : ∃ M, M ≤ N ∧ c M = false
    · obtain ⟨K, k1, k2, k3⟩ := least_stop c N z
      exact ⟨K, by omega, k2, k3⟩
    · have e : M = N + 1 := by
        by_cases q : M ≤ N
        · exact absurd ⟨M, q, h2⟩ z
        · omega
      subst e
      refine ⟨N + 1, Nat.le_refl _, h2, fun i hi => ?_⟩
      cases q : c i with
      | true => rfl
      | false => exact absurd ⟨i, by omega, q⟩ z
theorem cont_200 {p d l L : Nat} (hl : l ≤ 100) : contF p d l L 200 = false := by
  unfold contF
  rw [decide_eq_false (by omega), decide_eq_false (show ¬ 200 < 200 by decide), Bool.and_false]
  rfl
theorem s_fewest (n : Nat) {p d l L : Nat} (hp : p ≤ d) (hd1 : 1 ≤ d) (hd : d ≤ 6) (h1 : 1 ≤ l) (hl : l ≤ 4) (hL : L ≤ 10) : ∃ K, K ≤ 200 ∧ contF p d l L K = false ∧ (∀ i, i < K → contF p d l L i = true) ∧
    callF tab (n + 4) "fewest_years" [.va (odT p d), .va (.int (l : Int)), .va (odT L 10)] = .ret (if (fwS p d l K).2 * 10 < L * d ^ K then .none else .int (K : Int)) := by
  obtain ⟨K, k1, k2, k3⟩ := least_stop (contF p d l L) 200 ⟨200, Nat.le_refl _, cont_200 (by omega)⟩
  refine ⟨K, k1, k2, k3, ?_⟩
  rw [u_fewest_years, go_def rfl]
  unfold F_fewest_years F_fewest_years_b
  have b1 : callF tab (n + 3) "is_between" [.va (.int (l : Int)), .va (.int 1), .va (.int 200)] = .ret (.bool true) := by
    rw [s_is_between, decide_eq_true (by omega), decide_eq_true (by omega)]
    rfl
  refine (go_exe (d := .none) (by simp [runF, ex, ev, evT, evB, evV, evA, evC, evO, evI, getS, retV, rd_v, sl_v, rd_non, sl_non, rd_int, sl_int, rd_bl, sl_bl, rd_str, sl_str, rd_glob, sl_glob, rd_neg, sl_neg, rd_vnot, sl_vnot, rd_bin, sl_bin, rd_cmp, sl_cmp, rd_isN, sl_isN, rd_notN, sl_notN, rd_chn, sl_chn, rd_vbo, sl_vbo, rd_ife, sl_ife, rd_tup, sl_tup, rd_lst, sl_lst, rd_sub, sl_sub, rd_sli, sl_sli, rd_rev, sl_rev, rd_isi, sl_isi, rd_fn, sl_fn, rd_met, sl_met, rd_call, sl_call, rd_comp, sl_comp, RG.start, T.chk, T.bind, outV, getR, getV, cmpOp, binOp, isiOp, f_len, f_abs, f_sum, f_all, f_tuple, f_sorted, f_repr, m_count, fnLen, fnAbs, fnTuple, asgT, asgT.asgL, wipeR, itOp, truth, plOf, small, RG.setP, frs, isFr, ownOf, getO, subOp, plainI, notOw, notOwA, augOp, enumOp, zipOp, intOf, sliOp, revOp, s_check_odds n hp hd1 (by omega)])).trans ?_
  refine (go_no (by simp [runF, ex, ev, evT, evB, evV, evA, evC, evO, evI, getS, retV, rd_v, sl_v, rd_non, sl_non, rd_int, sl_int, rd_bl, sl_bl, rd_str, sl_str, rd_glob, sl_glob, rd_neg, sl_neg, rd_vnot, sl_vnot, rd_bin, sl_bin, rd_cmp, sl_cmp, rd_isN, sl_isN, rd_notN, sl_notN, rd_chn, sl_chn, rd_vbo, sl_vbo, rd_ife, sl_ife, rd_tup, sl_tup, rd_lst, sl_lst, rd_sub, sl_sub, rd_sli, sl_sli, rd_rev, sl_rev, rd_isi, sl_isi, rd_fn, sl_fn, rd_met, sl_met, rd_call, sl_call, rd_comp, sl_comp, RG.start, T.chk, T.bind, outV, getR, getV, cmpOp, binOp, isiOp, f_len, f_abs, f_sum, f_all, f_tuple, f_sorted, f_repr, m_count, fnLen, fnAbs, fnTuple, asgT, asgT.asgL, wipeR, itOp, truth, plOf, small, RG.setP, frs, isFr, ownOf, getO, subOp, plainI, notOw, notOwA, augOp, enumOp, zipOp, intOf, sliOp, revOp, b1])).trans ?_
  have cl : callF tab (n + 3) "check_limit" [.va (odT L 10)] = .ret .none := s_check_limit n hL (by decide) (by decide)
  refine (go_exe (d := .none) (by simp [runF, ex, ev, evT, evB, evV, evA, evC, evO, evI, getS, retV, rd_v, sl_v, rd_non, sl_non, rd_int, sl_int, rd_bl, sl_bl, rd_str, sl_str, rd_glob, sl_glob, rd_neg, sl_neg, rd_vnot, sl_vnot, rd_bin, sl_bin, rd_cmp, sl_cmp, rd_isN, sl_isN, rd_notN, sl_notN, rd_chn, sl_chn, rd_vbo, sl_vbo, rd_ife, sl_ife, rd_tup, sl_tup, rd_lst, sl_lst, rd_sub, sl_sub, rd_sli, sl_sli, rd_rev, sl_rev, rd_isi, sl_isi, rd_fn, sl_fn, rd_met, sl_met, rd_call, sl_call, rd_comp, sl_comp, RG.start, T.chk, T.bind, outV, getR, getV, cmpOp, binOp, isiOp, f_len, f_abs, f_sum, f_all, f_tuple, f_sorted, f_repr, m_count, fnLen, fnAbs, fnTuple, asgT, asgT.asgL, wipeR, itOp, truth, plOf, small, RG.setP, frs, isFr, ownOf, getO, subOp, plainI, notOw, notOwA, augOp, enumOp, zipOp, intOf, sliOp, revOp, cl])).trans ?_
  refine (go_asgS (d := .list (nL (fwS p d l 0).1)) (ρ2 := [.va (odT p d), .va (.int (l : Int)), .va (odT L 10), .va (.list (nL (fwS p d l 0).1)), .no, .no, .no]) ?_ (by simp [runF, ex, ev, evT, evB, evV, evA, evC, evO, evI, getS, retV, rd_v, sl_v, rd_non, sl_non, rd_int, sl_int, rd_bl, sl_bl, rd_str, sl_str, rd_glob, sl_glob, rd_neg, sl_neg, rd_vnot, sl_vnot, rd_bin, sl_bin, rd_cmp, sl_cmp, rd_isN, sl_isN, rd_notN, sl_notN, rd_chn, sl_chn, rd_vbo, sl_vbo, rd_ife, sl_ife, rd_tup, sl_tup, rd_lst, sl_lst, rd_sub, sl_sub, rd_sli, sl_sli, rd_rev, sl_rev, rd_isi, sl_isi, rd_fn, sl_fn, rd_met, sl_met, rd_call, sl_call, rd_comp, sl_comp, RG.start, T.chk, T.bind, outV, getR, getV, cmpOp, binOp, isiOp, f_len, f_abs, f_sum, f_all, f_tuple, f_sorted, f_repr, m_count, fnLen, fnAbs, fnTuple, asgT, asgT.asgL, wipeR, itOp, truth, plOf, small, RG.setP, frs, isFr, ownOf, getO, subOp, plainI, notOw, notOwA, augOp, enumOp, zipOp, intOf, sliOp, revOp])).trans ?_
  · rcases (by omega : l = 1 ∨ l = 2 ∨ l = 3 ∨ l = 4) with rfl | rfl | rfl | rfl <;> rfl
  refine (go_asgP (xs := [.va (.int 0), .va (.int 1), .va (.int 0)]) (ρ' := fwR p d l L 0) (by simp [runF, ex, ev, evT, evB, evV, evA, evC, evO, evI, getS, retV, rd_v, sl_v, rd_non, sl_non, rd_int, sl_int, rd_bl, sl_bl, rd_str, sl_str, rd_glob, sl_glob, rd_neg, sl_neg, rd_vnot, sl_vnot, rd_bin, sl_bin, rd_cmp, sl_cmp, rd_isN, sl_isN, rd_notN, sl_notN, rd_chn, sl_chn, rd_vbo, sl_vbo, rd_ife, sl_ife, rd_tup, sl_tup, rd_lst, sl_lst, rd_sub, sl_sub, rd_sli, sl_sli, rd_rev, sl_rev, rd_isi, sl_isi, rd_fn, sl_fn, rd_met, sl_met, rd_call, sl_call, rd_comp, sl_comp, RG.start, T.chk, T.bind, outV, getR, getV, cmpOp, binOp, isiOp, f_len, f_abs, f_sum, f_all, f_tuple, f_sorted, f_repr, m_count, fnLen, fnAbs, fnTuple, asgT, asgT.asgL, wipeR, itOp, truth, plOf, small, RG.setP, frs, isFr, ownOf, getO, subOp, plainI, notOw, notOwA, augOp, enumOp, zipOp, intOf, sliOp, revOp]) rfl).trans ?_
  have run := fw_run (n + 2) (L := L) hp hd h1 (by omega : l ≤ 100) hL K 0 whFuel (fun i _ hi => k3 i (by omega)) (by rw [Nat.zero_add]; exact k2) (Nat.lt_of_le_of_lt k1 (by decide))
  rw [Nat.zero_add] at run
  refine (go_whl run).trans (go_ret ?_)
  unfold fwR
  have o1 : ∀ x : Int, mulOk x ((10 : Nat) : Int) = true := fun x => mulOk_r (by omega)
  have o2 : ∀ x : Int, mulOk (L : Int) x = true := fun x => mulOk_l (by omega)
  have hc := lt_cast (a := (fwS p d l K).2) (b := 10) (c := L) (e := d ^ K)
  have g0 := od0 L 10
  have g1 := od1 L 10
  generalize d ^ K = w at *
  generalize (fwS p d l K).2 = met at *
  generalize nL (fwS p d l K).1 = ws at *
  have e10 : ((10 : Nat) : Int) = 10 := rfl
  rw [e10] at hc g0 g1
  simp only [e10] at o1
  by_cases z2 : met * 10 < L * w
  · rw [decide_eq_true z2] at hc
    have hc := of_decide_eq_true hc
    simp [runF, ex, ev, evT, evB, evV, evA, evC, evO, evI, getS, retV, rd_v, sl_v, rd_non, sl_non, rd_int, sl_int, rd_bl, sl_bl, rd_str, sl_str, rd_glob, sl_glob, rd_neg, sl_neg, rd_vnot, sl_vnot, rd_bin, sl_bin, rd_cmp, sl_cmp, rd_isN, sl_isN, rd_notN, sl_notN, rd_chn, sl_chn, rd_vbo, sl_vbo, rd_ife, sl_ife, rd_tup, sl_tup, rd_lst, sl_lst, rd_sub, sl_sub, rd_sli, sl_sli, rd_rev, sl_rev, rd_isi, sl_isi, rd_fn, sl_fn, rd_met, sl_met, rd_call, sl_call, rd_comp, sl_comp, RG.start, T.chk, T.bind, outV, getR, getV, cmpOp, binOp, isiOp, f_len, f_abs, f_sum, f_all, f_tuple, f_sorted, f_repr, m_count, fnLen, fnAbs, fnTuple, asgT, asgT.asgL, wipeR, itOp, truth, plOf, small, RG.setP, frs, isFr, ownOf, getO, subOp, plainI, notOw, notOwA, augOp, enumOp, zipOp, intOf, sliOp, revOp, z2, g0, g1, o1, o2, hc]
  · rw [decide_eq_false z2] at hc
    have hc := of_decide_eq_false hc
    simp [runF, ex, ev, evT, evB, evV, evA, evC, evO, evI, getS, retV, rd_v, sl_v, rd_non, sl_non, rd_int, sl_int, rd_bl, sl_bl, rd_str, sl_str, rd_glob, sl_glob, rd_neg, sl_neg, rd_vnot, sl_vnot, rd_bin, sl_bin, rd_cmp, sl_cmp, rd_isN, sl_isN, rd_notN, sl_notN, rd_chn, sl_chn, rd_vbo, sl_vbo, rd_ife, sl_ife, rd_tup, sl_tup, rd_lst, sl_lst, rd_sub, sl_sub, rd_sli, sl_sli, rd_rev, sl_rev, rd_isi, sl_isi, rd_fn, sl_fn, rd_met, sl_met, rd_call, sl_call, rd_comp, sl_comp, RG.start, T.chk, T.bind, outV, getR, getV, cmpOp, binOp, isiOp, f_len, f_abs, f_sum, f_all, f_tuple, f_sorted, f_repr, m_count, fnLen, fnAbs, fnTuple, asgT, asgT.asgL, wipeR, itOp, truth, plOf, small, RG.setP, frs, isFr, ownOf, getO, subOp, plainI, notOw, notOwA, augOp, enumOp, zipOp, intOf, sliOp, revOp, z2, g0, g1, o1, o2, hc]
/-! a claim -/
theorem qt_lt {u d a b : Nat} (h : 0 < d) : (u / Nat.gcd u d * a < b * (d / Nat.gcd u d)) = (u * a < b * d) := by
  have hg : 0 < Nat.gcd u d := Nat.gcd_pos_of_pos_right _ h
  have e1 : u = Nat.gcd u d * (u / Nat.gcd u d) := (Nat.mul_div_cancel' (Nat.gcd_dvd_left u d)).symm
  have e2 : d = Nat.gcd u d * (d / Nat.gcd u d) := (Nat.mul_div_cancel' (Nat.gcd_dvd_right u d)).symm
  generalize Nat.gcd u d = g at *
  generalize u / g = x at *
  generalize d / g = y at *
  rw [e1, e2, Nat.mul_assoc, show b * (g * y) = g * (b * y) by rw [← Nat.mul_assoc, Nat.mul_comm b g, Nat.mul_assoc]]
  exact propext (Nat.mul_lt_mul_left hg).symm
def judgeD (p d n had L : Nat) : PyData :=
  if tailP p d n had * 10 < L * d ^ n then .tuple [.str "more", qt (tailP p d n had) (d ^ n)]
  else if tailP (d - p) d n (n - had) * 10 < L * d ^ n then .tuple [.str "fewer", qt (tailP (d - p) d n (n - had)) (d ^ n)]
  else .tuple [.str "fits"]
abbrev hadN (ys : List Int) (l : Int) : Nat := (ys.filter fun o => decide (l ≤ o)).length
theorem s_judge (m : Nat) {p d L : Nat} {ys : List Int} {l : Int} (hp : p ≤ d) (hd1 : 1 ≤ d) (hd : d ≤ 6) (hL : L ≤ 10) (h : OKY ys) (hn : ys.length ≤ 40) (hl : 0 ≤ l ∧ l ≤ 1000000000000) (hF : d ^ ys.length = tailP (d - p) d ys.length (ys.length - hadN ys l) + tailP p d ys.length (hadN ys l + 1)) :
    callF tab (m + 4) "judge_claim" [.va (yrs ys), .va (.int l), .va (odT p d), .va (odT L 10)] = .ret (judgeD p d ys.length (hadN ys l) L) := by
  rw [u_judge_claim, go_def rfl]
  unfold F_judge_claim F_judge_claim_b
  have cl : callF tab (m + 3) "check_limit" [.va (odT L 10)] = .ret .none := s_check_limit m hL (by decide) (by decide)
  have c0 : ev (callF tab (m + 3)) C_judge_claim_0 [.va (yrs ys), .va (.int l), .va (odT p d), .va (odT L 10), .no, .no, .no, .no] = .ret (.list ((ys.filter fun o => decide (l ≤ o)).map fun _ => .int 1)) :=
    e_comp (ds := iL ys) (by simp [runF, ex, ev, evT, evB, evV, evA, evC, evO, evI, getS, retV, rd_v, sl_v, rd_non, sl_non, rd_int, sl_int, rd_bl, sl_bl, rd_str, sl_str, rd_glob, sl_glob, rd_neg, sl_neg, rd_vnot, sl_vnot, rd_bin, sl_bin, rd_cmp, sl_cmp, rd_isN, sl_isN, rd_notN, sl_notN, rd_chn, sl_chn, rd_vbo, sl_vbo, rd_ife, sl_ife, rd_tup, sl_tup, rd_lst, sl_lst, rd_sub, sl_sub, rd_sli, sl_sli, rd_rev, sl_rev, rd_isi, sl_isi, rd_fn, sl_fn, rd_met, sl_met, rd_call, sl_call, rd_comp, sl_comp, RG.start, T.chk, T.bind, outV, getR, getV, cmpOp, binOp, isiOp, f_len, f_abs, f_sum, f_all, f_tuple, f_sorted, f_repr, m_count, fnLen, fnAbs, fnTuple, asgT, asgT.asgL, wipeR, itOp, truth, plOf, small, RG.setP, frs, isFr, ownOf, getO, subOp, plainI, notOw, notOwA, augOp, enumOp, zipOp, intOf, sliOp, revOp]) (lcG_if fun o _ => by
      simp [runF, ex, ev, evT, evB, evV, evA, evC, evO, evI, getS, retV, rd_v, sl_v, rd_non, sl_non, rd_int, sl_int, rd_bl, sl_bl, rd_str, sl_str, rd_glob, sl_glob, rd_neg, sl_neg, rd_vnot, sl_vnot, rd_bin, sl_bin, rd_cmp, sl_cmp, rd_isN, sl_isN, rd_notN, sl_notN, rd_chn, sl_chn, rd_vbo, sl_vbo, rd_ife, sl_ife, rd_tup, sl_tup, rd_lst, sl_lst, rd_sub, sl_sub, rd_sli, sl_sli, rd_rev, sl_rev, rd_isi, sl_isi, rd_fn, sl_fn, rd_met, sl_met, rd_call, sl_call, rd_comp, sl_comp, RG.start, T.chk, T.bind, outV, getR, getV, cmpOp, binOp, isiOp, f_len, f_abs, f_sum, f_all, f_tuple, f_sorted, f_repr, m_count, fnLen, fnAbs, fnTuple, asgT, asgT.asgL, wipeR, itOp, truth, plOf, small, RG.setP, frs, isFr, ownOf, getO, subOp, plainI, notOw, notOwA, augOp, enumOp, zipOp, intOf, sliOp, revOp, lcF]
      by_cases z : l ≤ o <;> simp [z, T.bind])
  refine (go_exe (d := .none) (by simp [runF, ex, ev, evT, evB, evV, evA, evC, evO, evI, getS, retV, rd_v, sl_v, rd_non, sl_non, rd_int, sl_int, rd_bl, sl_bl, rd_str, sl_str, rd_glob, sl_glob, rd_neg, sl_neg, rd_vnot, sl_vnot, rd_bin, sl_bin, rd_cmp, sl_cmp, rd_isN, sl_isN, rd_notN, sl_notN, rd_chn, sl_chn, rd_vbo, sl_vbo, rd_ife, sl_ife, rd_tup, sl_tup, rd_lst, sl_lst, rd_sub, sl_sub, rd_sli, sl_sli, rd_rev, sl_rev, rd_isi, sl_isi, rd_fn, sl_fn, rd_met, sl_met, rd_call, sl_call, rd_comp, sl_comp, RG.start, T.chk, T.bind, outV, getR, getV, cmpOp, binOp, isiOp, f_len, f_abs, f_sum, f_all, f_tuple, f_sorted, f_repr, m_count, fnLen, fnAbs, fnTuple, asgT, asgT.asgL, wipeR, itOp, truth, plOf, small, RG.setP, frs, isFr, ownOf, getO, subOp, plainI, notOw, notOwA, augOp, enumOp, zipOp, intOf, sliOp, revOp, s_check_years m h])).trans ?_
  refine (go_exe (d := .none) (by simp [runF, ex, ev, evT, evB, evV, evA, evC, evO, evI, getS, retV, rd_v, sl_v, rd_non, sl_non, rd_int, sl_int, rd_bl, sl_bl, rd_str, sl_str, rd_glob, sl_glob, rd_neg, sl_neg, rd_vnot, sl_vnot, rd_bin, sl_bin, rd_cmp, sl_cmp, rd_isN, sl_isN, rd_notN, sl_notN, rd_chn, sl_chn, rd_vbo, sl_vbo, rd_ife, sl_ife, rd_tup, sl_tup, rd_lst, sl_lst, rd_sub, sl_sub, rd_sli, sl_sli, rd_rev, sl_rev, rd_isi, sl_isi, rd_fn, sl_fn, rd_met, sl_met, rd_call, sl_call, rd_comp, sl_comp, RG.start, T.chk, T.bind, outV, getR, getV, cmpOp, binOp, isiOp, f_len, f_abs, f_sum, f_all, f_tuple, f_sorted, f_repr, m_count, fnLen, fnAbs, fnTuple, asgT, asgT.asgL, wipeR, itOp, truth, plOf, small, RG.setP, frs, isFr, ownOf, getO, subOp, plainI, notOw, notOwA, augOp, enumOp, zipOp, intOf, sliOp, revOp, s_check_level m hl])).trans ?_
  refine (go_exe (d := .none) (by simp [runF, ex, ev, evT, evB, evV, evA, evC, evO, evI, getS, retV, rd_v, sl_v, rd_non, sl_non, rd_int, sl_int, rd_bl, sl_bl, rd_str, sl_str, rd_glob, sl_glob, rd_neg, sl_neg, rd_vnot, sl_vnot, rd_bin, sl_bin, rd_cmp, sl_cmp, rd_isN, sl_isN, rd_notN, sl_notN, rd_chn, sl_chn, rd_vbo, sl_vbo, rd_ife, sl_ife, rd_tup, sl_tup, rd_lst, sl_lst, rd_sub, sl_sub, rd_sli, sl_sli, rd_rev, sl_rev, rd_isi, sl_isi, rd_fn, sl_fn, rd_met, sl_met, rd_call, sl_call, rd_comp, sl_comp, RG.start, T.chk, T.bind, outV, getR, getV, cmpOp, binOp, isiOp, f_len, f_abs, f_sum, f_all, f_tuple, f_sorted, f_repr, m_count, fnLen, fnAbs, fnTuple, asgT, asgT.asgL, wipeR, itOp, truth, plOf, small, RG.setP, frs, isFr, ownOf, getO, subOp, plainI, notOw, notOwA, augOp, enumOp, zipOp, intOf, sliOp, revOp, s_check_odds m hp hd1 (by omega)])).trans ?_
  refine (go_exe (d := .none) (by simp [runF, ex, ev, evT, evB, evV, evA, evC, evO, evI, getS, retV, rd_v, sl_v, rd_non, sl_non, rd_int, sl_int, rd_bl, sl_bl, rd_str, sl_str, rd_glob, sl_glob, rd_neg, sl_neg, rd_vnot, sl_vnot, rd_bin, sl_bin, rd_cmp, sl_cmp, rd_isN, sl_isN, rd_notN, sl_notN, rd_chn, sl_chn, rd_vbo, sl_vbo, rd_ife, sl_ife, rd_tup, sl_tup, rd_lst, sl_lst, rd_sub, sl_sub, rd_sli, sl_sli, rd_rev, sl_rev, rd_isi, sl_isi, rd_fn, sl_fn, rd_met, sl_met, rd_call, sl_call, rd_comp, sl_comp, RG.start, T.chk, T.bind, outV, getR, getV, cmpOp, binOp, isiOp, f_len, f_abs, f_sum, f_all, f_tuple, f_sorted, f_repr, m_count, fnLen, fnAbs, fnTuple, asgT, asgT.asgL, wipeR, itOp, truth, plOf, small, RG.setP, frs, isFr, ownOf, getO, subOp, plainI, notOw, notOwA, augOp, enumOp, zipOp, intOf, sliOp, revOp, cl])).trans ?_
  refine (go_asgS (d := .int (hadN ys l : Nat)) (ρ2 := [.va (yrs ys), .va (.int l), .va (odT p d), .va (odT L 10), .va (.int (hadN ys l : Nat)), .no, .no, .no]) (by simp [runF, ex, ev, evT, evB, evV, evA, evC, evO, evI, getS, retV, rd_v, sl_v, rd_non, sl_non, rd_int, sl_int, rd_bl, sl_bl, rd_str, sl_str, rd_glob, sl_glob, rd_neg, sl_neg, rd_vnot, sl_vnot, rd_bin, sl_bin, rd_cmp, sl_cmp, rd_isN, sl_isN, rd_notN, sl_notN, rd_chn, sl_chn, rd_vbo, sl_vbo, rd_ife, sl_ife, rd_tup, sl_tup, rd_lst, sl_lst, rd_sub, sl_sub, rd_sli, sl_sli, rd_rev, sl_rev, rd_isi, sl_isi, rd_fn, sl_fn, rd_met, sl_met, rd_call, sl_call, rd_comp, sl_comp, RG.start, T.chk, T.bind, outV, getR, getV, cmpOp, binOp, isiOp, f_len, f_abs, f_sum, f_all, f_tuple, f_sorted, f_repr, m_count, fnLen, fnAbs, fnTuple, asgT, asgT.asgL, wipeR, itOp, truth, plOf, small, RG.setP, frs, isFr, ownOf, getO, subOp, plainI, notOw, notOwA, augOp, enumOp, zipOp, intOf, sliOp, revOp, c0, rd_C_judge_claim_0]) (by simp [runF, ex, ev, evT, evB, evV, evA, evC, evO, evI, getS, retV, rd_v, sl_v, rd_non, sl_non, rd_int, sl_int, rd_bl, sl_bl, rd_str, sl_str, rd_glob, sl_glob, rd_neg, sl_neg, rd_vnot, sl_vnot, rd_bin, sl_bin, rd_cmp, sl_cmp, rd_isN, sl_isN, rd_notN, sl_notN, rd_chn, sl_chn, rd_vbo, sl_vbo, rd_ife, sl_ife, rd_tup, sl_tup, rd_lst, sl_lst, rd_sub, sl_sub, rd_sli, sl_sli, rd_rev, sl_rev, rd_isi, sl_isi, rd_fn, sl_fn, rd_met, sl_met, rd_call, sl_call, rd_comp, sl_comp, RG.start, T.chk, T.bind, outV, getR, getV, cmpOp, binOp, isiOp, f_len, f_abs, f_sum, f_all, f_tuple, f_sorted, f_repr, m_count, fnLen, fnAbs, fnTuple, asgT, asgT.asgL, wipeR, itOp, truth, plOf, small, RG.setP, frs, isFr, ownOf, getO, subOp, plainI, notOw, notOwA, augOp, enumOp, zipOp, intOf, sliOp, revOp])).trans ?_
  have r1 := s_rows_from (m + 1) (l := hadN ys l) hp hd hn
  have r2 : callF tab (m + 3) "rows_from" [.va (odT p d), .va (.int (ys.length : Nat)), .va (.int ((hadN ys l : Nat) + 1))] = _ := s_rows_from (m + 1) (l := hadN ys l + 1) hp hd hn
  have B1 := tail_b (p := p) (d := d) (n := ys.length) (l := hadN ys l) hp hd hn
  have B2 := tail_b (p := d - p) (d := d) (n := ys.length) (l := ys.length - hadN ys l) (Nat.sub_le _ _) hd hn
  have B3 := dn_b (d := d) (n := ys.length) hd (by omega)
  have B4 : 0 < d ^ ys.length := Nat.pow_pos (by omega)
  have q1 := s_quotient (m + 2) B1 B3 (.inr B4)
  have q2 := s_quotient (m + 2) B2 B3 (.inr B4)
  have hF : ((d ^ ys.length : Nat) : Int) - ((tailP p d ys.length (hadN ys l + 1) : Nat) : Int) = ((tailP (d - p) d ys.length (ys.length - hadN ys l) : Nat) : Int) := by omega
  have o1 : ∀ x : Int, mulOk x ((10 : Nat) : Int) = true := fun x => mulOk_r (by omega)
  have o2 : ∀ x : Int, mulOk (L : Int) x = true := fun x => mulOk_l (by omega)
  have hc1 := lt_cast (a := tailP p d ys.length (hadN ys l)) (b := 10) (c := L) (e := d ^ ys.length)
  have hc2 := lt_cast (a := tailP (d - p) d ys.length (ys.length - hadN ys l)) (b := 10) (c := L) (e := d ^ ys.length)
  have g0 := od0 L 10
  have g1 := od1 L 10
  unfold judgeD
  have t0 := od0 (tailP p d ys.length (hadN ys l)) (d ^ ys.length)
  have t1 := od1 (tailP p d ys.length (hadN ys l)) (d ^ ys.length)
  have t2 := od0 (tailP p d ys.length (hadN ys l + 1)) (d ^ ys.length)
  have t4 := od0 (tailP (d - p) d ys.length (ys.length - hadN ys l)) (d ^ ys.length)
  have t5 := od1 (tailP (d - p) d ys.length (ys.length - hadN ys l)) (d ^ ys.length)
  generalize qt (tailP p d ys.length (hadN ys l)) (d ^ ys.length) = z1 at *
  generalize qt (tailP (d - p) d ys.length (ys.length - hadN ys l)) (d ^ ys.length) = z2 at *
  generalize tailP p d ys.length (hadN ys l + 1) = a2 at *
  generalize tailP p d ys.length (hadN ys l) = a1 at *
  generalize tailP (d - p) d ys.length (ys.length - hadN ys l) = a3 at *
  generalize d ^ ys.length = w at *
  generalize hadN ys l = had at *
  have e10 : ((10 : Nat) : Int) = 10 := rfl
  rw [e10] at hc1 hc2 g0 g1
  simp only [e10] at o1
  refine (go_asgS (d := .tuple [.int (a1 : Int), .int (w : Int)]) (ρ2 := [.va (yrs ys), .va (.int l), .va (odT p d), .va (odT L 10), .va (.int (had : Nat)), .no, .va (.tuple [.int (a1 : Int), .int (w : Int)]), .no]) (by simp [runF, ex, ev, evT, evB, evV, evA, evC, evO, evI, getS, retV, rd_v, sl_v, rd_non, sl_non, rd_int, sl_int, rd_bl, sl_bl, rd_str, sl_str, rd_glob, sl_glob, rd_neg, sl_neg, rd_vnot, sl_vnot, rd_bin, sl_bin, rd_cmp, sl_cmp, rd_isN, sl_isN, rd_notN, sl_notN, rd_chn, sl_chn, rd_vbo, sl_vbo, rd_ife, sl_ife, rd_tup, sl_tup, rd_lst, sl_lst, rd_sub, sl_sub, rd_sli, sl_sli, rd_rev, sl_rev, rd_isi, sl_isi, rd_fn, sl_fn, rd_met, sl_met, rd_call, sl_call, rd_comp, sl_comp, RG.start, T.chk, T.bind, outV, getR, getV, cmpOp, binOp, isiOp, f_len, f_abs, f_sum, f_all, f_tuple, f_sorted, f_repr, m_count, fnLen, fnAbs, fnTuple, asgT, asgT.asgL, wipeR, itOp, truth, plOf, small, RG.setP, frs, isFr, ownOf, getO, subOp, plainI, notOw, notOwA, augOp, enumOp, zipOp, intOf, sliOp, revOp, r1]) (by simp [runF, ex, ev, evT, evB, evV, evA, evC, evO, evI, getS, retV, rd_v, sl_v, rd_non, sl_non, rd_int, sl_int, rd_bl, sl_bl, rd_str, sl_str, rd_glob, sl_glob, rd_neg, sl_neg, rd_vnot, sl_vnot, rd_bin, sl_bin, rd_cmp, sl_cmp, rd_isN, sl_isN, rd_notN, sl_notN, rd_chn, sl_chn, rd_vbo, sl_vbo, rd_ife, sl_ife, rd_tup, sl_tup, rd_lst, sl_lst, rd_sub, sl_sub, rd_sli, sl_sli, rd_rev, sl_rev, rd_isi, sl_isi, rd_fn, sl_fn, rd_met, sl_met, rd_call, sl_call, rd_comp, sl_comp, RG.start, T.chk, T.bind, outV, getR, getV, cmpOp, binOp, isiOp, f_len, f_abs, f_sum, f_all, f_tuple, f_sorted, f_repr, m_count, fnLen, fnAbs, fnTuple, asgT, asgT.asgL, wipeR, itOp, truth, plOf, small, RG.setP, frs, isFr, ownOf, getO, subOp, plainI, notOw, notOwA, augOp, enumOp, zipOp, intOf, sliOp, revOp])).trans ?_
  refine (go_asgS (d := .tuple [.int (a3 : Int), .int (w : Int)]) (ρ2 := [.va (yrs ys), .va (.int l), .va (odT p d), .va (odT L 10), .va (.int (had : Nat)), .no, .va (.tuple [.int (a1 : Int), .int (w : Int)]), .va (.tuple [.int (a3 : Int), .int (w : Int)])]) (by simp [runF, ex, ev, evT, evB, evV, evA, evC, evO, evI, getS, retV, rd_v, sl_v, rd_non, sl_non, rd_int, sl_int, rd_bl, sl_bl, rd_str, sl_str, rd_glob, sl_glob, rd_neg, sl_neg, rd_vnot, sl_vnot, rd_bin, sl_bin, rd_cmp, sl_cmp, rd_isN, sl_isN, rd_notN, sl_notN, rd_chn, sl_chn, rd_vbo, sl_vbo, rd_ife, sl_ife, rd_tup, sl_tup, rd_lst, sl_lst, rd_sub, sl_sub, rd_sli, sl_sli, rd_rev, sl_rev, rd_isi, sl_isi, rd_fn, sl_fn, rd_met, sl_met, rd_call, sl_call, rd_comp, sl_comp, RG.start, T.chk, T.bind, outV, getR, getV, cmpOp, binOp, isiOp, f_len, f_abs, f_sum, f_all, f_tuple, f_sorted, f_repr, m_count, fnLen, fnAbs, fnTuple, asgT, asgT.asgL, wipeR, itOp, truth, plOf, small, RG.setP, frs, isFr, ownOf, getO, subOp, plainI, notOw, notOwA, augOp, enumOp, zipOp, intOf, sliOp, revOp, r2, t0, t1, t2, hF]) (by simp [runF, ex, ev, evT, evB, evV, evA, evC, evO, evI, getS, retV, rd_v, sl_v, rd_non, sl_non, rd_int, sl_int, rd_bl, sl_bl, rd_str, sl_str, rd_glob, sl_glob, rd_neg, sl_neg, rd_vnot, sl_vnot, rd_bin, sl_bin, rd_cmp, sl_cmp, rd_isN, sl_isN, rd_notN, sl_notN, rd_chn, sl_chn, rd_vbo, sl_vbo, rd_ife, sl_ife, rd_tup, sl_tup, rd_lst, sl_lst, rd_sub, sl_sub, rd_sli, sl_sli, rd_rev, sl_rev, rd_isi, sl_isi, rd_fn, sl_fn, rd_met, sl_met, rd_call, sl_call, rd_comp, sl_comp, RG.start, T.chk, T.bind, outV, getR, getV, cmpOp, binOp, isiOp, f_len, f_abs, f_sum, f_all, f_tuple, f_sorted, f_repr, m_count, fnLen, fnAbs, fnTuple, asgT, asgT.asgL, wipeR, itOp, truth, plOf, small, RG.setP, frs, isFr, ownOf, getO, subOp, plainI, notOw, notOwA, augOp, enumOp, zipOp, intOf, sliOp, revOp])).trans ?_
  by_cases y1 : a1 * 10 < L * w
  · rw [if_pos y1]
    rw [decide_eq_true y1] at hc1
    have hc1 := of_decide_eq_true hc1
    refine go_yesR (by simp [runF, ex, ev, evT, evB, evV, evA, evC, evO, evI, getS, retV, rd_v, sl_v, rd_non, sl_non, rd_int, sl_int, rd_bl, sl_bl, rd_str, sl_str, rd_glob, sl_glob, rd_neg, sl_neg, rd_vnot, sl_vnot, rd_bin, sl_bin, rd_cmp, sl_cmp, rd_isN, sl_isN, rd_notN, sl_notN, rd_chn, sl_chn, rd_vbo, sl_vbo, rd_ife, sl_ife, rd_tup, sl_tup, rd_lst, sl_lst, rd_sub, sl_sub, rd_sli, sl_sli, rd_rev, sl_rev, rd_isi, sl_isi, rd_fn, sl_fn, rd_met, sl_met, rd_call, sl_call, rd_comp, sl_comp, RG.start, T.chk, T.bind, outV, getR, getV, cmpOp, binOp, isiOp, f_len, f_abs, f_sum, f_all, f_tuple, f_sorted, f_repr, m_count, fnLen, fnAbs, fnTuple, asgT, asgT.asgL, wipeR, itOp, truth, plOf, small, RG.setP, frs, isFr, ownOf, getO, subOp, plainI, notOw, notOwA, augOp, enumOp, zipOp, intOf, sliOp, revOp, t0, t1, g0, g1, o1, o2, hc1]) (by simp [runF, ex, ev, evT, evB, evV, evA, evC, evO, evI, getS, retV, rd_v, sl_v, rd_non, sl_non, rd_int, sl_int, rd_bl, sl_bl, rd_str, sl_str, rd_glob, sl_glob, rd_neg, sl_neg, rd_vnot, sl_vnot, rd_bin, sl_bin, rd_cmp, sl_cmp, rd_isN, sl_isN, rd_notN, sl_notN, rd_chn, sl_chn, rd_vbo, sl_vbo, rd_ife, sl_ife, rd_tup, sl_tup, rd_lst, sl_lst, rd_sub, sl_sub, rd_sli, sl_sli, rd_rev, sl_rev, rd_isi, sl_isi, rd_fn, sl_fn, rd_met, sl_met, rd_call, sl_call, rd_comp, sl_comp, RG.start, T.chk, T.bind, outV, getR, getV, cmpOp, binOp, isiOp, f_len, f_abs, f_sum, f_all, f_tuple, f_sorted, f_repr, m_count, fnLen, fnAbs, fnTuple, asgT, asgT.asgL, wipeR, itOp, truth, plOf, small, RG.setP, frs, isFr, ownOf, getO, subOp, plainI, notOw, notOwA, augOp, enumOp, zipOp, intOf, sliOp, revOp, t0, t1, q1]) rfl
  · rw [if_neg y1]
    rw [decide_eq_false y1] at hc1
    have hc1 := of_decide_eq_false hc1
    refine (go_no (by simp [runF, ex, ev, evT, evB, evV, evA, evC, evO, evI, getS, retV, rd_v, sl_v, rd_non, sl_non, rd_int, sl_int, rd_bl, sl_bl, rd_str, sl_str, rd_glob, sl_glob, rd_neg, sl_neg, rd_vnot, sl_vnot, rd_bin, sl_bin, rd_cmp, sl_cmp, rd_isN, sl_isN, rd_notN, sl_notN, rd_chn, sl_chn, rd_vbo, sl_vbo, rd_ife, sl_ife, rd_tup, sl_tup, rd_lst, sl_lst, rd_sub, sl_sub, rd_sli, sl_sli, rd_rev, sl_rev, rd_isi, sl_isi, rd_fn, sl_fn, rd_met, sl_met, rd_call, sl_call, rd_comp, sl_comp, RG.start, T.chk, T.bind, outV, getR, getV, cmpOp, binOp, isiOp, f_len, f_abs, f_sum, f_all, f_tuple, f_sorted, f_repr, m_count, fnLen, fnAbs, fnTuple, asgT, asgT.asgL, wipeR, itOp, truth, plOf, small, RG.setP, frs, isFr, ownOf, getO, subOp, plainI, notOw, notOwA, augOp, enumOp, zipOp, intOf, sliOp, revOp, t0, t1, g0, g1, o1, o2, hc1])).trans ?_
    by_cases y2 : a3 * 10 < L * w
    · rw [if_pos y2]
      rw [decide_eq_true y2] at hc2
      have hc2 := of_decide_eq_true hc2
      refine go_yesR (by simp [runF, ex, ev, evT, evB, evV, evA, evC, evO, evI, getS, retV, rd_v, sl_v, rd_non, sl_non, rd_int, sl_int, rd_bl, sl_bl, rd_str, sl_str, rd_glob, sl_glob, rd_neg, sl_neg, rd_vnot, sl_vnot, rd_bin, sl_bin, rd_cmp, sl_cmp, rd_isN, sl_isN, rd_notN, sl_notN, rd_chn, sl_chn, rd_vbo, sl_vbo, rd_ife, sl_ife, rd_tup, sl_tup, rd_lst, sl_lst, rd_sub, sl_sub, rd_sli, sl_sli, rd_rev, sl_rev, rd_isi, sl_isi, rd_fn, sl_fn, rd_met, sl_met, rd_call, sl_call, rd_comp, sl_comp, RG.start, T.chk, T.bind, outV, getR, getV, cmpOp, binOp, isiOp, f_len, f_abs, f_sum, f_all, f_tuple, f_sorted, f_repr, m_count, fnLen, fnAbs, fnTuple, asgT, asgT.asgL, wipeR, itOp, truth, plOf, small, RG.setP, frs, isFr, ownOf, getO, subOp, plainI, notOw, notOwA, augOp, enumOp, zipOp, intOf, sliOp, revOp, t4, t5, g0, g1, o1, o2, hc2]) (by simp [runF, ex, ev, evT, evB, evV, evA, evC, evO, evI, getS, retV, rd_v, sl_v, rd_non, sl_non, rd_int, sl_int, rd_bl, sl_bl, rd_str, sl_str, rd_glob, sl_glob, rd_neg, sl_neg, rd_vnot, sl_vnot, rd_bin, sl_bin, rd_cmp, sl_cmp, rd_isN, sl_isN, rd_notN, sl_notN, rd_chn, sl_chn, rd_vbo, sl_vbo, rd_ife, sl_ife, rd_tup, sl_tup, rd_lst, sl_lst, rd_sub, sl_sub, rd_sli, sl_sli, rd_rev, sl_rev, rd_isi, sl_isi, rd_fn, sl_fn, rd_met, sl_met, rd_call, sl_call, rd_comp, sl_comp, RG.start, T.chk, T.bind, outV, getR, getV, cmpOp, binOp, isiOp, f_len, f_abs, f_sum, f_all, f_tuple, f_sorted, f_repr, m_count, fnLen, fnAbs, fnTuple, asgT, asgT.asgL, wipeR, itOp, truth, plOf, small, RG.setP, frs, isFr, ownOf, getO, subOp, plainI, notOw, notOwA, augOp, enumOp, zipOp, intOf, sliOp, revOp, t4, t5, q2]) rfl
    · rw [if_neg y2]
      rw [decide_eq_false y2] at hc2
      have hc2 := of_decide_eq_false hc2
      refine (go_no (by simp [runF, ex, ev, evT, evB, evV, evA, evC, evO, evI, getS, retV, rd_v, sl_v, rd_non, sl_non, rd_int, sl_int, rd_bl, sl_bl, rd_str, sl_str, rd_glob, sl_glob, rd_neg, sl_neg, rd_vnot, sl_vnot, rd_bin, sl_bin, rd_cmp, sl_cmp, rd_isN, sl_isN, rd_notN, sl_notN, rd_chn, sl_chn, rd_vbo, sl_vbo, rd_ife, sl_ife, rd_tup, sl_tup, rd_lst, sl_lst, rd_sub, sl_sub, rd_sli, sl_sli, rd_rev, sl_rev, rd_isi, sl_isi, rd_fn, sl_fn, rd_met, sl_met, rd_call, sl_call, rd_comp, sl_comp, RG.start, T.chk, T.bind, outV, getR, getV, cmpOp, binOp, isiOp, f_len, f_abs, f_sum, f_all, f_tuple, f_sorted, f_repr, m_count, fnLen, fnAbs, fnTuple, asgT, asgT.asgL, wipeR, itOp, truth, plOf, small, RG.setP, frs, isFr, ownOf, getO, subOp, plainI, notOw, notOwA, augOp, enumOp, zipOp, intOf, sliOp, revOp, t4, t5, g0, g1, o1, o2, hc2])).trans (go_ret ?_)
      simp [runF, ex, ev, evT, evB, evV, evA, evC, evO, evI, getS, retV, rd_v, sl_v, rd_non, sl_non, rd_int, sl_int, rd_bl, sl_bl, rd_str, sl_str, rd_glob, sl_glob, rd_neg, sl_neg, rd_vnot, sl_vnot, rd_bin, sl_bin, rd_cmp, sl_cmp, rd_isN, sl_isN, rd_notN, sl_notN, rd_chn, sl_chn, rd_vbo, sl_vbo, rd_ife, sl_ife, rd_tup, sl_tup, rd_lst, sl_lst, rd_sub, sl_sub, rd_sli, sl_sli, rd_rev, sl_rev, rd_isi, sl_isi, rd_fn, sl_fn, rd_met, sl_met, rd_call, sl_call, rd_comp, sl_comp, RG.start, T.chk, T.bind, outV, getR, getV, cmpOp, binOp, isiOp, f_len, f_abs, f_sum, f_all, f_tuple, f_sorted, f_repr, m_count, fnLen, fnAbs, fnTuple, asgT, asgT.asgL, wipeR, itOp, truth, plOf, small, RG.setP, frs, isFr, ownOf, getO, subOp, plainI, notOw, notOwA, augOp, enumOp, zipOp, intOf, sliOp, revOp]
end K63
end

section
set_option Elab.async false
set_option linter.all false
set_option maxRecDepth 100000
set_option maxHeartbeats 4000000
/-! Odds: the law's rows. -/
namespace K63
open PySem RG
theorem nL_iL (ns : List Nat) : nL ns = iL (ns.map fun k : Nat => (k : Int)) := by
  unfold nL iL
  rw [List.map_map]
  rfl
theorem cast_sum : ∀ ns : List Nat, (ns.map fun k : Nat => (k : Int)).sum = ((ns.sum : Nat) : Int)
  | [] => rfl
  | n :: ns => by rw [List.map_cons, List.sum_cons, List.sum_cons, cast_sum ns, Int.natCast_add]
theorem fnSum_nL (ns : List Nat) : fnSum [.list (nL ns)] = .ret (.int (ns.sum : Nat)) := by rw [nL_iL, fnSum_iL, cast_sum]
theorem cut_from {α : Type} {f : α → PyData} {xs : List α} {k : Nat} (h : k ≤ xs.length) : cutD (xs.map f) (some (k : Int)) none = (xs.drop k).map f := by
  unfold cutD
  have e1 : HT.sIx (xs.map f).length 0 (some (k : Int)) = k := by
    simp [HT.sIx, show ¬ ((k : Int) < 0) by omega]
    omega
  have e2 : HT.sIx (xs.map f).length (xs.map f).length none = (xs.map f).length := by simp [HT.sIx]
  rw [e1, e2, List.map_drop, List.take_of_length_le (by rw [List.length_drop]; omega)]
theorem cut_to {α : Type} {f : α → PyData} {xs : List α} {k : Nat} (h : k ≤ xs.length) : cutD (xs.map f) none (some (k : Int)) = (xs.take k).map f := by
  unfold cutD
  have e1 : HT.sIx (xs.map f).length 0 none = 0 := by simp [HT.sIx]
  have e2 : HT.sIx (xs.map f).length (xs.map f).length (some (k : Int)) = k := by
    simp [HT.sIx, show ¬ ((k : Int) < 0) by omega]
    omega
  rw [e1, e2, List.drop_zero, Nat.sub_zero, List.map_take]
theorem nL_get {ps : List Nat} {k : Nat} {i : Int} (e : i = (k : Int)) (h : k < ps.length) : atD (nL ps) i = .ret (.int (ps.getD k 0 : Nat)) := at_of e (by
  rw [List.getElem?_map, List.getD_eq_getElem?_getD, List.getElem?_eq_getElem h]
  rfl)
section
variable {p d one other : Nat} {a5 a6 a7 a8 a9 a10 a11 a12 a13 a14 a15 a16 a17 a18 a19 a20 a21 a22 a23 : Sl}

theorem oc5 {ps : List Nat} (hp : p ≤ d) (hd : d ≤ 6) (hl1 : 1 ≤ ps.length) (hl : ps.length ≤ 1000) : ev (callF tab 11) C_law_odds_hold_5 [.st, .va (.int (d : Int)), .va (odT p d), .va (.int (one : Int)), .va (.int (other : Int)), a5, a6, .va (.list (nL ps)), a8, a9, a10, a11, a12, a13, a14, a15, a16, a17, a18, a19, a20, a21, a22, a23] = .ret (.list (nL (lawStep p (d - p) ps))) := by
  have r := rng1 (n := ((ps.length : Nat) : Int) + 1) (m := ps.length + 1) (by omega) (by omega)
  have o2 : ∀ x : Int, mulOk x (p : Int) = true := fun x => mulOk_r (by omega)
  have o3 : ∀ x : Int, mulOk x ((d : Int) - (p : Int)) = true := fun x => mulOk_r (by omega)
  have er : nL (lawStep p (d - p) ps) = (List.range (ps.length + 1)).map fun k => PyData.int (((if k < ps.length then ps.getD k 0 * (d - p) else 0) + (if k = 0 then 0 else ps.getD (k - 1) 0 * p) : Nat) : Int) := by
    unfold nL lawStep
    rw [List.map_map]
    rfl
  rw [er]
  refine e_comp (ds := (List.range (ps.length + 1)).map fun i : Nat => PyData.int (i : Int)) (by simp [runF, ex, ev, evT, evB, evV, evA, evC, evO, evI, getS, retV, rd_v, sl_v, rd_non, sl_non, rd_int, sl_int, rd_bl, sl_bl, rd_str, sl_str, rd_glob, sl_glob, rd_neg, sl_neg, rd_vnot, sl_vnot, rd_bin, sl_bin, rd_cmp, sl_cmp, rd_isN, sl_isN, rd_notN, sl_notN, rd_chn, sl_chn, rd_vbo, sl_vbo, rd_ife, sl_ife, rd_tup, sl_tup, rd_lst, sl_lst, rd_sub, sl_sub, rd_sli, sl_sli, rd_rev, sl_rev, rd_isi, sl_isi, rd_fn, sl_fn, rd_met, sl_met, rd_call, sl_call, rd_comp, sl_comp, RG.start, T.chk, T.bind, outV, getR, getV, cmpOp, binOp, isiOp, f_len, f_abs, f_sum, f_all, f_tuple, f_sorted, f_repr, m_count, fnLen, fnAbs, fnTuple, asgT, asgT.asgL, wipeR, itOp, truth, plOf, small, RG.setP, frs, isFr, ownOf, getO, subOp, plainI, notOw, notOwA, augOp, enumOp, zipOp, intOf, sliOp, revOp, r]) (lcG_over fun k hk => ?_)
  have hk := List.mem_range.mp hk
  by_cases z1 : k < ps.length
  · have g1 := nL_get (i := (k : Int)) rfl z1
    by_cases z2 : k = 0
    · subst z2
      have e : (((if 0 < ps.length then ps.getD 0 0 * (d - p) else 0) + (if (0 : Nat) = 0 then 0 else ps.getD (0 - 1) 0 * p) : Nat) : Int) = ((ps.getD 0 0 : Nat) : Int) * ((d : Int) - (p : Int)) := by rw [if_pos z1, if_pos rfl, Nat.add_zero, Int.natCast_mul, Int.natCast_sub hp]
      show _ = T.ret (some (PyData.int ((((if 0 < ps.length then ps.getD 0 0 * (d - p) else 0) + (if (0 : Nat) = 0 then 0 else ps.getD (0 - 1) 0 * p) : Nat) : Int))))
      rw [e]
      have g1 : atD (nL ps) 0 = _ := g1
      generalize ps.getD 0 0 = v at *
      simp [runF, ex, ev, evT, evB, evV, evA, evC, evO, evI, getS, retV, rd_v, sl_v, rd_non, sl_non, rd_int, sl_int, rd_bl, sl_bl, rd_str, sl_str, rd_glob, sl_glob, rd_neg, sl_neg, rd_vnot, sl_vnot, rd_bin, sl_bin, rd_cmp, sl_cmp, rd_isN, sl_isN, rd_notN, sl_notN, rd_chn, sl_chn, rd_vbo, sl_vbo, rd_ife, sl_ife, rd_tup, sl_tup, rd_lst, sl_lst, rd_sub, sl_sub, rd_sli, sl_sli, rd_rev, sl_rev, rd_isi, sl_isi, rd_fn, sl_fn, rd_met, sl_met, rd_call, sl_call, rd_comp, sl_comp, RG.start, T.chk, T.bind, outV, getR, getV, cmpOp, binOp, isiOp, f_len, f_abs, f_sum, f_all, f_tuple, f_sorted, f_repr, m_count, fnLen, fnAbs, fnTuple, asgT, asgT.asgL, wipeR, itOp, truth, plOf, small, RG.setP, frs, isFr, ownOf, getO, subOp, plainI, notOw, notOwA, augOp, enumOp, zipOp, intOf, sliOp, revOp, lcF, z1, g1, od0, o3]
    · have g2 := nL_get (i := (k : Int) - 1) (k := k - 1) (ps := ps) (by omega) (by omega)
      have e : (((if k < ps.length then ps.getD k 0 * (d - p) else 0) + (if k = 0 then 0 else ps.getD (k - 1) 0 * p) : Nat) : Int) = ((ps.getD k 0 : Nat) : Int) * ((d : Int) - (p : Int)) + ((ps.getD (k - 1) 0 : Nat) : Int) * (p : Int) := by rw [if_pos z1, if_neg z2, Int.natCast_add, Int.natCast_mul, Int.natCast_mul, Int.natCast_sub hp]
      show _ = T.ret (some (PyData.int ((((if k < ps.length then ps.getD k 0 * (d - p) else 0) + (if k = 0 then 0 else ps.getD (k - 1) 0 * p) : Nat) : Int))))
      rw [e]
      generalize ps.getD k 0 = v at *
      generalize ps.getD (k - 1) 0 = u at *
      simp [runF, ex, ev, evT, evB, evV, evA, evC, evO, evI, getS, retV, rd_v, sl_v, rd_non, sl_non, rd_int, sl_int, rd_bl, sl_bl, rd_str, sl_str, rd_glob, sl_glob, rd_neg, sl_neg, rd_vnot, sl_vnot, rd_bin, sl_bin, rd_cmp, sl_cmp, rd_isN, sl_isN, rd_notN, sl_notN, rd_chn, sl_chn, rd_vbo, sl_vbo, rd_ife, sl_ife, rd_tup, sl_tup, rd_lst, sl_lst, rd_sub, sl_sub, rd_sli, sl_sli, rd_rev, sl_rev, rd_isi, sl_isi, rd_fn, sl_fn, rd_met, sl_met, rd_call, sl_call, rd_comp, sl_comp, RG.start, T.chk, T.bind, outV, getR, getV, cmpOp, binOp, isiOp, f_len, f_abs, f_sum, f_all, f_tuple, f_sorted, f_repr, m_count, fnLen, fnAbs, fnTuple, asgT, asgT.asgL, wipeR, itOp, truth, plOf, small, RG.setP, frs, isFr, ownOf, getO, subOp, plainI, notOw, notOwA, augOp, enumOp, zipOp, intOf, sliOp, revOp, lcF, z1, z2, g1, g2, od0, o2, o3]
  · by_cases z2 : k = 0
    · omega
    · have g2 := nL_get (i := (k : Int) - 1) (k := k - 1) (ps := ps) (by omega) (by omega)
      have e : (((if k < ps.length then ps.getD k 0 * (d - p) else 0) + (if k = 0 then 0 else ps.getD (k - 1) 0 * p) : Nat) : Int) = ((ps.getD (k - 1) 0 : Nat) : Int) * (p : Int) := by rw [if_neg z1, if_neg z2, Nat.zero_add, Int.natCast_mul]
      show _ = T.ret (some (PyData.int ((((if k < ps.length then ps.getD k 0 * (d - p) else 0) + (if k = 0 then 0 else ps.getD (k - 1) 0 * p) : Nat) : Int))))
      rw [e]
      generalize ps.getD (k - 1) 0 = u at *
      simp [runF, ex, ev, evT, evB, evV, evA, evC, evO, evI, getS, retV, rd_v, sl_v, rd_non, sl_non, rd_int, sl_int, rd_bl, sl_bl, rd_str, sl_str, rd_glob, sl_glob, rd_neg, sl_neg, rd_vnot, sl_vnot, rd_bin, sl_bin, rd_cmp, sl_cmp, rd_isN, sl_isN, rd_notN, sl_notN, rd_chn, sl_chn, rd_vbo, sl_vbo, rd_ife, sl_ife, rd_tup, sl_tup, rd_lst, sl_lst, rd_sub, sl_sub, rd_sli, sl_sli, rd_rev, sl_rev, rd_isi, sl_isi, rd_fn, sl_fn, rd_met, sl_met, rd_call, sl_call, rd_comp, sl_comp, RG.start, T.chk, T.bind, outV, getR, getV, cmpOp, binOp, isiOp, f_len, f_abs, f_sum, f_all, f_tuple, f_sorted, f_repr, m_count, fnLen, fnAbs, fnTuple, asgT, asgT.asgL, wipeR, itOp, truth, plOf, small, RG.setP, frs, isFr, ownOf, getO, subOp, plainI, notOw, notOwA, augOp, enumOp, zipOp, intOf, sliOp, revOp, lcF, z1, z2, g2, od0, o2]
/-! both put together -/
abbrev jD (p d n : Nat) : PyData := .tuple [.list (nL (lawP p (d - p) n)), .int (d ^ n : Nat)]
theorem j0 (p d n : Nat) : atD [PyData.list (nL (lawP p (d - p) n)), .int (d ^ n : Nat)] 0 = .ret (.list (nL (lawP p (d - p) n))) := at_of (k := 0) rfl rfl
theorem j1 (p d n : Nat) : atD [PyData.list (nL (lawP p (d - p) n)), .int (d ^ n : Nat)] 1 = .ret (.int (d ^ n : Nat)) := at_of (k := 1) rfl rfl
theorem law_len (p q : Nat) : ∀ n, (lawP p q n).length = n + 1
  | 0 => rfl
  | n + 1 => by
    show ((List.range ((lawP p q n).length + 1)).map _).length = _
    rw [List.length_map, List.length_range, law_len p q n]
theorem allO_of {f : Nat → Nat → Bool} (h : allO f = true) {p d : Nat} (hp : p ≤ d) (h1 : 1 ≤ d) (hd : d ≤ 6) : f p d = true := by
  have h2 := List.all_eq_true.mp h d (List.mem_range.mpr (by omega))
  rw [Bool.or_eq_true] at h2
  rcases h2 with h2 | h2
  · rw [Nat.blt_eq] at h2
    omega
  · exact List.all_eq_true.mp h2 p (List.mem_range.mpr (by omega))
theorem law_b (hp : p ≤ d) (h1 : 1 ≤ d) (hd : d ≤ 6) {n k : Nat} (hn : n ≤ 10) (hk : k ≤ n) : (lawP p (d - p) n).getD k 0 < 18446744073709551616 := by
  have h := allO_of a3 hp h1 hd
  have h2 := List.all_eq_true.mp (List.all_eq_true.mp h n (List.mem_range.mpr (by omega)))
  have h3 := law_len p (d - p) n
  rw [List.getD_eq_getElem?_getD, List.getElem?_eq_getElem (by omega)]
  have h4 := h2 _ (List.getElem_mem (l := lawP p (d - p) n) (n := k) (by omega))
  rw [Nat.blt_eq] at h4
  exact h4
theorem oc3 {size : Nat} (hp : p ≤ d) (h1 : 1 ≤ d) (hd : d ≤ 6) (ho : one ≤ 5) (ho2 : other ≤ 5) (hs : size ≤ one + other) : ev (callF tab 11) C_law_odds_hold_3 [.st, .va (.int (d : Int)), .va (odT p d), .va (.int (one : Int)), .va (.int (other : Int)), .ow (.list [jD p d one, jD p d other, jD p d (one + other)]), a6, a7, a8, a9, a10, a11, a12, .va (.int (size : Int)), a14, a15, a16, a17, a18, a19, a20, a21, a22, a23] =
    .ret (.list (nL (((List.range (size + 1)).filter fun k => decide (k ≤ one) && decide (size - k ≤ other)).map fun k => (lawP p (d - p) one).getD k 0 * (lawP p (d - p) other).getD (size - k) 0))) := by
  have r := rng1 (n := (size : Int) + 1) (m := size + 1) (by omega) (by omega)
  have er : nL (((List.range (size + 1)).filter fun k => decide (k ≤ one) && decide (size - k ≤ other)).map fun k => (lawP p (d - p) one).getD k 0 * (lawP p (d - p) other).getD (size - k) 0) = ((List.range (size + 1)).filter fun k => decide (k ≤ one) && decide (size - k ≤ other)).map fun k => PyData.int (((lawP p (d - p) one).getD k 0 * (lawP p (d - p) other).getD (size - k) 0 : Nat) : Int) := by
    unfold nL
    rw [List.map_map]
    rfl
  rw [er]
  refine e_comp (ds := (List.range (size + 1)).map fun i : Nat => PyData.int (i : Int)) (by simp [runF, ex, ev, evT, evB, evV, evA, evC, evO, evI, getS, retV, rd_v, sl_v, rd_non, sl_non, rd_int, sl_int, rd_bl, sl_bl, rd_str, sl_str, rd_glob, sl_glob, rd_neg, sl_neg, rd_vnot, sl_vnot, rd_bin, sl_bin, rd_cmp, sl_cmp, rd_isN, sl_isN, rd_notN, sl_notN, rd_chn, sl_chn, rd_vbo, sl_vbo, rd_ife, sl_ife, rd_tup, sl_tup, rd_lst, sl_lst, rd_sub, sl_sub, rd_sli, sl_sli, rd_rev, sl_rev, rd_isi, sl_isi, rd_fn, sl_fn, rd_met, sl_met, rd_call, sl_call, rd_comp, sl_comp, RG.start, T.chk, T.bind, outV, getR, getV, cmpOp, binOp, isiOp, f_len, f_abs, f_sum, f_all, f_tuple, f_sorted, f_repr, m_count, fnLen, fnAbs, fnTuple, asgT, asgT.asgL, wipeR, itOp, truth, plOf, small, RG.setP, frs, isFr, ownOf, getO, subOp, plainI, notOw, notOwA, augOp, enumOp, zipOp, intOf, sliOp, revOp, r]) (lcG_if fun k hk => ?_)
  have hk := List.mem_range.mp hk
  have t0 : atD [jD p d one, jD p d other, jD p d (one + other)] 0 = .ret (jD p d one) := at_of (k := 0) rfl rfl
  have t1 : atD [jD p d one, jD p d other, jD p d (one + other)] 1 = .ret (jD p d other) := at_of (k := 1) rfl rfl
  have u0 := j0 p d one
  have v0 := j0 p d other
  have w1 : (size : Int) - (k : Int) ≤ (other : Int) ↔ size - k ≤ other := by omega
  by_cases z1 : k ≤ one
  · by_cases z2 : size - k ≤ other
    · have g1 := nL_get (ps := lawP p (d - p) one) (i := (k : Int)) rfl (by rw [law_len]; omega)
      have g2 := nL_get (ps := lawP p (d - p) other) (i := (size : Int) - (k : Int)) (k := size - k) (by omega) (by rw [law_len]; omega)
      have b1 := law_b hp h1 hd (n := one) (k := k) (by omega) z1
      have mo : mulOk ((lawP p (d - p) one).getD k 0 : Nat) ((lawP p (d - p) other).getD (size - k) 0 : Nat) = true := mulOk_l (by rw [Int.natAbs_natCast]; exact b1)
      have e := Int.natCast_mul ((lawP p (d - p) one).getD k 0) ((lawP p (d - p) other).getD (size - k) 0)
      rw [e]
      unfold jD at *
      generalize (lawP p (d - p) one).getD k 0 = x at *
      generalize (lawP p (d - p) other).getD (size - k) 0 = y at *
      generalize nL (lawP p (d - p) one) = l1 at *
      generalize nL (lawP p (d - p) other) = l2 at *
      generalize nL (lawP p (d - p) (one + other)) = l3 at *
      generalize ((d ^ one : Nat) : Int) = x1 at *
      generalize ((d ^ other : Nat) : Int) = x2 at *
      generalize ((d ^ (one + other) : Nat) : Int) = x3 at *
      simp [runF, ex, ev, evT, evB, evV, evA, evC, evO, evI, getS, retV, rd_v, sl_v, rd_non, sl_non, rd_int, sl_int, rd_bl, sl_bl, rd_str, sl_str, rd_glob, sl_glob, rd_neg, sl_neg, rd_vnot, sl_vnot, rd_bin, sl_bin, rd_cmp, sl_cmp, rd_isN, sl_isN, rd_notN, sl_notN, rd_chn, sl_chn, rd_vbo, sl_vbo, rd_ife, sl_ife, rd_tup, sl_tup, rd_lst, sl_lst, rd_sub, sl_sub, rd_sli, sl_sli, rd_rev, sl_rev, rd_isi, sl_isi, rd_fn, sl_fn, rd_met, sl_met, rd_call, sl_call, rd_comp, sl_comp, RG.start, T.chk, T.bind, outV, getR, getV, cmpOp, binOp, isiOp, f_len, f_abs, f_sum, f_all, f_tuple, f_sorted, f_repr, m_count, fnLen, fnAbs, fnTuple, asgT, asgT.asgL, wipeR, itOp, truth, plOf, small, RG.setP, frs, isFr, ownOf, getO, subOp, plainI, notOw, notOwA, augOp, enumOp, zipOp, intOf, sliOp, revOp, lcF, z1, z2, w1, t0, t1, u0, v0, g1, g2, mo]
    · simp [runF, ex, ev, evT, evB, evV, evA, evC, evO, evI, getS, retV, rd_v, sl_v, rd_non, sl_non, rd_int, sl_int, rd_bl, sl_bl, rd_str, sl_str, rd_glob, sl_glob, rd_neg, sl_neg, rd_vnot, sl_vnot, rd_bin, sl_bin, rd_cmp, sl_cmp, rd_isN, sl_isN, rd_notN, sl_notN, rd_chn, sl_chn, rd_vbo, sl_vbo, rd_ife, sl_ife, rd_tup, sl_tup, rd_lst, sl_lst, rd_sub, sl_sub, rd_sli, sl_sli, rd_rev, sl_rev, rd_isi, sl_isi, rd_fn, sl_fn, rd_met, sl_met, rd_call, sl_call, rd_comp, sl_comp, RG.start, T.chk, T.bind, outV, getR, getV, cmpOp, binOp, isiOp, f_len, f_abs, f_sum, f_all, f_tuple, f_sorted, f_repr, m_count, fnLen, fnAbs, fnTuple, asgT, asgT.asgL, wipeR, itOp, truth, plOf, small, RG.setP, frs, isFr, ownOf, getO, subOp, plainI, notOw, notOwA, augOp, enumOp, zipOp, intOf, sliOp, revOp, lcF, z1, z2, w1]
  · simp [runF, ex, ev, evT, evB, evV, evA, evC, evO, evI, getS, retV, rd_v, sl_v, rd_non, sl_non, rd_int, sl_int, rd_bl, sl_bl, rd_str, sl_str, rd_glob, sl_glob, rd_neg, sl_neg, rd_vnot, sl_vnot, rd_bin, sl_bin, rd_cmp, sl_cmp, rd_isN, sl_isN, rd_notN, sl_notN, rd_chn, sl_chn, rd_vbo, sl_vbo, rd_ife, sl_ife, rd_tup, sl_tup, rd_lst, sl_lst, rd_sub, sl_sub, rd_sli, sl_sli, rd_rev, sl_rev, rd_isi, sl_isi, rd_fn, sl_fn, rd_met, sl_met, rd_call, sl_call, rd_comp, sl_comp, RG.start, T.chk, T.bind, outV, getR, getV, cmpOp, binOp, isiOp, f_len, f_abs, f_sum, f_all, f_tuple, f_sorted, f_repr, m_count, fnLen, fnAbs, fnTuple, asgT, asgT.asgL, wipeR, itOp, truth, plOf, small, RG.setP, frs, isFr, ownOf, getO, subOp, plainI, notOw, notOwA, augOp, enumOp, zipOp, intOf, sliOp, revOp, lcF, z1]
theorem both_eq (hp : p ≤ d) (h1 : 1 ≤ d) (hd : d ≤ 6) (ho : one ≤ 5) (ho2 : other ≤ 5) : bothP p (d - p) one other = lawP p (d - p) (one + other) := by
  have h := allO_of a2 hp h1 hd
  have h2 := List.all_eq_true.mp (List.all_eq_true.mp h one (List.mem_range.mpr (by omega))) other (List.mem_range.mpr (by omega))
  exact eq_of_beq h2
theorem oc4 (hp : p ≤ d) (h1 : 1 ≤ d) (hd : d ≤ 6) (ho : one ≤ 5) (ho2 : other ≤ 5) : ev (callF tab 11) C_law_odds_hold_4 [.st, .va (.int (d : Int)), .va (odT p d), .va (.int (one : Int)), .va (.int (other : Int)), .ow (.list [jD p d one, jD p d other, jD p d (one + other)]), a6, a7, a8, a9, a10, a11, a12, a13, a14, a15, a16, a17, a18, a19, a20, a21, a22, a23] = .ret (.list (nL (lawP p (d - p) (one + other)))) := by
  have r := rng1 (n := (one : Int) + (other : Int) + 1) (m := one + other + 1) (by omega) (by omega)
  have er : nL (bothP p (d - p) one other) = (List.range (one + other + 1)).map fun size => PyData.int (((((List.range (size + 1)).filter fun k => decide (k ≤ one) && decide (size - k ≤ other)).map fun k => (lawP p (d - p) one).getD k 0 * (lawP p (d - p) other).getD (size - k) 0).sum : Nat) : Int) := by
    unfold nL bothP
    rw [List.map_map]
    rfl
  rw [← both_eq hp h1 hd ho ho2, er]
  refine e_comp (ds := (List.range (one + other + 1)).map fun i : Nat => PyData.int (i : Int)) (by simp [runF, ex, ev, evT, evB, evV, evA, evC, evO, evI, getS, retV, rd_v, sl_v, rd_non, sl_non, rd_int, sl_int, rd_bl, sl_bl, rd_str, sl_str, rd_glob, sl_glob, rd_neg, sl_neg, rd_vnot, sl_vnot, rd_bin, sl_bin, rd_cmp, sl_cmp, rd_isN, sl_isN, rd_notN, sl_notN, rd_chn, sl_chn, rd_vbo, sl_vbo, rd_ife, sl_ife, rd_tup, sl_tup, rd_lst, sl_lst, rd_sub, sl_sub, rd_sli, sl_sli, rd_rev, sl_rev, rd_isi, sl_isi, rd_fn, sl_fn, rd_met, sl_met, rd_call, sl_call, rd_comp, sl_comp, RG.start, T.chk, T.bind, outV, getR, getV, cmpOp, binOp, isiOp, f_len, f_abs, f_sum, f_all, f_tuple, f_sorted, f_repr, m_count, fnLen, fnAbs, fnTuple, asgT, asgT.asgL, wipeR, itOp, truth, plOf, small, RG.setP, frs, isFr, ownOf, getO, subOp, plainI, notOw, notOwA, augOp, enumOp, zipOp, intOf, sliOp, revOp, r]) (lcG_over fun size hs => ?_)
  have hs := List.mem_range.mp hs
  have c3 := oc3 (p := p) (d := d) (one := one) (other := other) (size := size) (a6 := a6) (a7 := a7) (a8 := a8) (a9 := a9) (a10 := .no) (a11 := a11) (a12 := a12) (a14 := a14) (a15 := a15) (a16 := a16) (a17 := a17) (a18 := a18) (a19 := a19) (a20 := a20) (a21 := a21) (a22 := a22) (a23 := a23) hp h1 hd ho ho2 (by omega)
  have c3' := oc3 (p := p) (d := d) (one := one) (other := other) (size := size) (a6 := a6) (a7 := a7) (a8 := a8) (a9 := a9) (a10 := a10) (a11 := a11) (a12 := a12) (a14 := a14) (a15 := a15) (a16 := a16) (a17 := a17) (a18 := a18) (a19 := a19) (a20 := a20) (a21 := a21) (a22 := a22) (a23 := a23) hp h1 hd ho ho2 (by omega)
  have su := fnSum_nL (((List.range (size + 1)).filter fun k => decide (k ≤ one) && decide (size - k ≤ other)).map fun k => (lawP p (d - p) one).getD k 0 * (lawP p (d - p) other).getD (size - k) 0)
  generalize hg : (((List.range (size + 1)).filter fun k => decide (k ≤ one) && decide (size - k ≤ other)).map fun k => (lawP p (d - p) one).getD k 0 * (lawP p (d - p) other).getD (size - k) 0) = ls at *
  generalize nL ls = ls' at *
  show lcF _ _ _ _ _ _ = T.ret (some (PyData.int ((ls.sum : Nat) : Int)))
  generalize ls.sum = su' at *
  generalize jD p d one = k1 at *
  generalize jD p d other = k2 at *
  generalize jD p d (one + other) = k3 at *
  simp [runF, ex, ev, evT, evB, evV, evA, evC, evO, evI, getS, retV, rd_v, sl_v, rd_non, sl_non, rd_int, sl_int, rd_bl, sl_bl, rd_str, sl_str, rd_glob, sl_glob, rd_neg, sl_neg, rd_vnot, sl_vnot, rd_bin, sl_bin, rd_cmp, sl_cmp, rd_isN, sl_isN, rd_notN, sl_notN, rd_chn, sl_chn, rd_vbo, sl_vbo, rd_ife, sl_ife, rd_tup, sl_tup, rd_lst, sl_lst, rd_sub, sl_sub, rd_sli, sl_sli, rd_rev, sl_rev, rd_isi, sl_isi, rd_fn, sl_fn, rd_met, sl_met, rd_call, sl_call, rd_comp, sl_comp, RG.start, T.chk, T.bind, outV, getR, getV, cmpOp, binOp, isiOp, f_len, f_abs, f_sum, f_all, f_tuple, f_sorted, f_repr, m_count, fnLen, fnAbs, fnTuple, asgT, asgT.asgL, wipeR, itOp, truth, plOf, small, RG.setP, frs, isFr, ownOf, getO, subOp, plainI, notOw, notOwA, augOp, enumOp, zipOp, intOf, sliOp, revOp, lcF, rd_C_law_odds_hold_3, c3, c3', f_sum, su]
/-! the years that do -/
def goodN (p d l L : Nat) : List Nat := ((List.range (41 - l)).filter fun i => !decide (tailP p d (l + i) l * 10 < L * d ^ (l + i))).map fun i => l + i
theorem oc2 {l L : Nat} (hp : p ≤ d) (h1 : 1 ≤ d) (hd : d ≤ 6) (hl1 : 1 ≤ l) (hl : l ≤ 4) (hL : L ≤ 10) : ev (callF tab 11) C_law_odds_hold_2 [.st, .va (.int (d : Int)), .va (odT p d), .va (.int (one : Int)), .va (.int (other : Int)), a5, a6, a7, a8, a9, a10, .va (.int (l : Int)), a12, a13, .va (odT L 10), a15, a16, a17, a18, a19, a20, a21, a22, a23] = .ret (.list (nL (goodN p d l L))) := by
  have r := rng2 (a := (l : Int)) (b := 41) (m := 41 - l) (by omega) (by omega) (by omega)
  have er : nL (goodN p d l L) = ((List.range (41 - l)).filter fun i => !decide (tailP p d (l + i) l * 10 < L * d ^ (l + i))).map fun (i : Nat) => PyData.int ((l : Int) + (i : Int)) := by
    unfold nL goodN
    rw [List.map_map]
    rfl
  rw [er]
  refine e_comp (ds := (List.range (41 - l)).map fun i : Nat => PyData.int ((l : Int) + (i : Int))) (by simp [runF, ex, ev, evT, evB, evV, evA, evC, evO, evI, getS, retV, rd_v, sl_v, rd_non, sl_non, rd_int, sl_int, rd_bl, sl_bl, rd_str, sl_str, rd_glob, sl_glob, rd_neg, sl_neg, rd_vnot, sl_vnot, rd_bin, sl_bin, rd_cmp, sl_cmp, rd_isN, sl_isN, rd_notN, sl_notN, rd_chn, sl_chn, rd_vbo, sl_vbo, rd_ife, sl_ife, rd_tup, sl_tup, rd_lst, sl_lst, rd_sub, sl_sub, rd_sli, sl_sli, rd_rev, sl_rev, rd_isi, sl_isi, rd_fn, sl_fn, rd_met, sl_met, rd_call, sl_call, rd_comp, sl_comp, RG.start, T.chk, T.bind, outV, getR, getV, cmpOp, binOp, isiOp, f_len, f_abs, f_sum, f_all, f_tuple, f_sorted, f_repr, m_count, fnLen, fnAbs, fnTuple, asgT, asgT.asgL, wipeR, itOp, truth, plOf, small, RG.setP, frs, isFr, ownOf, getO, subOp, plainI, notOw, notOwA, augOp, enumOp, zipOp, intOf, sliOp, revOp, r]) (lcG_if fun i hi => ?_)
  have hi := List.mem_range.mp hi
  have q := s_odds_from 7 (p := p) (d := d) (n := l + i) (l := l) hp h1 hd (by omega) (by omega) (by omega)
  have q : callF tab 11 "odds_from" [.va (odT p d), .va (.int ((l : Int) + (i : Int))), .va (.int (l : Int))] = .ret (qt (tailP p d (l + i) l) (d ^ (l + i))) := q
  have lt := qt_lt (u := tailP p d (l + i) l) (d := d ^ (l + i)) (a := 10) (b := L) (Nat.pow_pos (by omega))
  have hc := lt_cast (a := tailP p d (l + i) l / Nat.gcd (tailP p d (l + i) l) (d ^ (l + i))) (b := 10) (c := L) (e := d ^ (l + i) / Nat.gcd (tailP p d (l + i) l) (d ^ (l + i)))
  simp only [lt] at hc
  have o1 : ∀ x : Int, mulOk x 10 = true := fun x => mulOk_r (by omega)
  have o2 : ∀ x : Int, mulOk (L : Int) x = true := fun x => mulOk_l (by omega)
  have g0 : atD [PyData.int (L : Int), .int 10] 0 = _ := od0 L 10
  have g1 : atD [PyData.int (L : Int), .int 10] 1 = _ := od1 L 10
  have y0 := od0 (tailP p d (l + i) l / Nat.gcd (tailP p d (l + i) l) (d ^ (l + i))) (d ^ (l + i) / Nat.gcd (tailP p d (l + i) l) (d ^ (l + i)))
  have y1 := od1 (tailP p d (l + i) l / Nat.gcd (tailP p d (l + i) l) (d ^ (l + i))) (d ^ (l + i) / Nat.gcd (tailP p d (l + i) l) (d ^ (l + i)))
  unfold qt at q
  have e10 : ((10 : Nat) : Int) = 10 := rfl
  rw [e10] at hc g1
  generalize (tailP p d (l + i) l / Nat.gcd (tailP p d (l + i) l) (d ^ (l + i))) = u at *
  generalize (d ^ (l + i) / Nat.gcd (tailP p d (l + i) l) (d ^ (l + i))) = w at *
  by_cases z : tailP p d (l + i) l * 10 < L * d ^ (l + i)
  · rw [decide_eq_true z] at hc ⊢
    have hc := of_decide_eq_true hc
    have hc2 : ¬ ((L : Int) * (w : Int) ≤ (u : Int) * 10) := by omega
    simp [runF, ex, ev, evT, evB, evV, evA, evC, evO, evI, getS, retV, rd_v, sl_v, rd_non, sl_non, rd_int, sl_int, rd_bl, sl_bl, rd_str, sl_str, rd_glob, sl_glob, rd_neg, sl_neg, rd_vnot, sl_vnot, rd_bin, sl_bin, rd_cmp, sl_cmp, rd_isN, sl_isN, rd_notN, sl_notN, rd_chn, sl_chn, rd_vbo, sl_vbo, rd_ife, sl_ife, rd_tup, sl_tup, rd_lst, sl_lst, rd_sub, sl_sub, rd_sli, sl_sli, rd_rev, sl_rev, rd_isi, sl_isi, rd_fn, sl_fn, rd_met, sl_met, rd_call, sl_call, rd_comp, sl_comp, RG.start, T.chk, T.bind, outV, getR, getV, cmpOp, binOp, isiOp, f_len, f_abs, f_sum, f_all, f_tuple, f_sorted, f_repr, m_count, fnLen, fnAbs, fnTuple, asgT, asgT.asgL, wipeR, itOp, truth, plOf, small, RG.setP, frs, isFr, ownOf, getO, subOp, plainI, notOw, notOwA, augOp, enumOp, zipOp, intOf, sliOp, revOp, lcF, q, y0, y1, g0, g1, o1, o2, hc2]
  · rw [decide_eq_false z] at hc ⊢
    have hc := of_decide_eq_false hc
    have hc2 : ((L : Int) * (w : Int) ≤ (u : Int) * 10) := by omega
    simp [runF, ex, ev, evT, evB, evV, evA, evC, evO, evI, getS, retV, rd_v, sl_v, rd_non, sl_non, rd_int, sl_int, rd_bl, sl_bl, rd_str, sl_str, rd_glob, sl_glob, rd_neg, sl_neg, rd_vnot, sl_vnot, rd_bin, sl_bin, rd_cmp, sl_cmp, rd_isN, sl_isN, rd_notN, sl_notN, rd_chn, sl_chn, rd_vbo, sl_vbo, rd_ife, sl_ife, rd_tup, sl_tup, rd_lst, sl_lst, rd_sub, sl_sub, rd_sli, sl_sli, rd_rev, sl_rev, rd_isi, sl_isi, rd_fn, sl_fn, rd_met, sl_met, rd_call, sl_call, rd_comp, sl_comp, RG.start, T.chk, T.bind, outV, getR, getV, cmpOp, binOp, isiOp, f_len, f_abs, f_sum, f_all, f_tuple, f_sorted, f_repr, m_count, fnLen, fnAbs, fnTuple, asgT, asgT.asgL, wipeR, itOp, truth, plOf, small, RG.setP, frs, isFr, ownOf, getO, subOp, plainI, notOw, notOwA, augOp, enumOp, zipOp, intOf, sliOp, revOp, lcF, q, y0, y1, g0, g1, o1, o2, hc2]
end
end K63
end

section
set_option Elab.async false
set_option linter.all false
set_option maxRecDepth 100000
set_option maxHeartbeats 4000000
/-! Odds: the law's loop over numbers of years. -/
namespace K63
open PySem RG
theorem sum_drop (n : Nat) {p d l : Nat} (hp : p ≤ d) (h1 : 1 ≤ d) (hd : d ≤ 6) (hn : n ≤ 10) (hl : l ≤ n) : ((lawP p (d - p) n).drop l).sum = tailP p d n l ∧ (l ≠ 0 → ((lawP p (d - p) n).take l).sum = tailP (d - p) d n (n - l + 1)) := by
  have h := allO_of a1 hp h1 hd
  have h2 := List.all_eq_true.mp (List.all_eq_true.mp h n (List.mem_range.mpr (by omega))) l (List.mem_range.mpr (by omega))
  rw [Bool.and_eq_true, Bool.or_eq_true, Nat.beq_eq, Nat.beq_eq, Nat.beq_eq] at h2
  refine ⟨h2.1.symm, fun z => ?_⟩
  rcases h2.2 with q | q
  · exact absurd q z
  · exact q.symm
theorem sh_qt (u d : Nat) : sh 1 (qt u d) := sh_tuple fun x hx => by
  rcases List.mem_cons.mp hx with z | z
  · rw [z]; exact sh_int
  · rw [List.mem_singleton.mp z]; exact sh_int
theorem ok_qt (u d u2 d2 : Nat) : okEq (qt u d) (qt u2 d2) = true := okEq_sh (sh_qt u d) (sh_qt u2 d2) (by decide) (by decide)
theorem eq_qt (u d : Nat) : PyData.eqv (qt u d) (qt u d) = true := (eqv_iff _ _ rfl rfl).mpr rfl
theorem fold_step {Φ : Calls} (i : Nat) (b : Sx) (x : PyData) (ρ : Rho) : ((asgT (.v i) x ρ).bind fun ρ' => ex Φ b ρ') = ex Φ b (ρ.set i (.va x)) := rfl
section
variable {p d one other : Nat} {js : List PyData} {a6 a7 a8 a9 a10 a11 : Sl}

theorem o_turns (n : Nat) (hp : p ≤ d) (h1 : 1 ≤ d) (hd : d ≤ 6) (hn : n ≤ 10) : ∃ s9 s10, ex (callF tab 11) (.for_ (.v 9) (.irng (.cons (.v 6) .nil)) L_law_odds_hold_1) [.st, .va (.int (d : Int)), .va (odT p d), .va (.int (one : Int)), .va (.int (other : Int)), .ow (.list js), .va (.int (n : Int)), .va (.list (nL (lawP p (d - p) 0))), .va (.int (d ^ 0 : Nat)), a9, a10, a11, .no, .no, .no, .no, .no, .no, .no, .no, .no, .no, .no, .no] = .ret (.nx, [.st, .va (.int (d : Int)), .va (odT p d), .va (.int (one : Int)), .va (.int (other : Int)), .ow (.list js), .va (.int (n : Int)), .va (.list (nL (lawP p (d - p) n))), .va (.int (d ^ n : Nat)), s9, s10, a11, .no, .no, .no, .no, .no, .no, .no, .no, .no, .no, .no, .no]) := by
  obtain ⟨ρ', e1, s9, s10, e2⟩ := forG_inv (f := fun d ρ => (asgT (.v 9) d ρ).bind fun ρ' => ex (callF tab 11) L_law_odds_hold_1 ρ') (m := fun i : Nat => PyData.int (i : Int)) (all := List.range n)
    (I := fun done ρ => ∃ s9 s10, ρ = [.st, .va (.int (d : Int)), .va (odT p d), .va (.int (one : Int)), .va (.int (other : Int)), .ow (.list js), .va (.int (n : Int)), .va (.list (nL (lawP p (d - p) done.length))), .va (.int (d ^ done.length : Nat)), s9, s10, a11, .no, .no, .no, .no, .no, .no, .no, .no, .no, .no, .no, .no]) (fun done x rest ρ e ⟨s9, s10, e2⟩ => by
      subst e2
      obtain ⟨_, r2, r3⟩ := range_split e
      have hlen : (done ++ [x]).length = done.length + 1 := by simp
      rw [hlen]
      refine ⟨_, ?_, .va (.int (x : Int)), s10, rfl⟩
      have c5 := oc5 (p := p) (d := d) (one := one) (other := other) (ps := lawP p (d - p) done.length) (a5 := .ow (.list js)) (a6 := .va (.int (n : Int))) (a8 := .va (.int (d ^ done.length : Nat))) (a9 := .va (.int (x : Int))) (a10 := s10) (a11 := a11) (a12 := .no) (a13 := .no) (a14 := .no) (a15 := .no) (a16 := .no) (a17 := .no) (a18 := .no) (a19 := .no) (a20 := .no) (a21 := .no) (a22 := .no) (a23 := .no) hp hd (by rw [law_len]; omega) (by rw [law_len]; omega)
      have o1 : ∀ x : Int, mulOk x (d : Int) = true := fun x => mulOk_r (by omega)
      have es : d ^ (done.length + 1) = d ^ done.length * d := Nat.pow_succ ..
      have el : lawStep p (d - p) (lawP p (d - p) done.length) = lawP p (d - p) (done.length + 1) := rfl
      rw [es]
      rw [el] at c5
      have em := Int.natCast_mul (d ^ done.length) d
      rw [em]
      rw [fold_step]
      generalize nL (lawP p (d - p) (done.length + 1)) = l2 at *
      generalize nL (lawP p (d - p) done.length) = l1 at *
      generalize d ^ done.length = w at *
      unfold L_law_odds_hold_1
      refine ex_one (ex_asgP (xs := [.va (.list l2), .va (.int ((w : Int) * (d : Int)))]) ?_ ?_)
      · simp [runF, ex, ev, evT, evB, evV, evA, evC, evO, evI, getS, retV, rd_v, sl_v, rd_non, sl_non, rd_int, sl_int, rd_bl, sl_bl, rd_str, sl_str, rd_glob, sl_glob, rd_neg, sl_neg, rd_vnot, sl_vnot, rd_bin, sl_bin, rd_cmp, sl_cmp, rd_isN, sl_isN, rd_notN, sl_notN, rd_chn, sl_chn, rd_vbo, sl_vbo, rd_ife, sl_ife, rd_tup, sl_tup, rd_lst, sl_lst, rd_sub, sl_sub, rd_sli, sl_sli, rd_rev, sl_rev, rd_isi, sl_isi, rd_fn, sl_fn, rd_met, sl_met, rd_call, sl_call, rd_comp, sl_comp, RG.start, T.chk, T.bind, outV, getR, getV, cmpOp, binOp, isiOp, f_len, f_abs, f_sum, f_all, f_tuple, f_sorted, f_repr, m_count, fnLen, fnAbs, fnTuple, asgT, asgT.asgL, wipeR, itOp, truth, plOf, small, RG.setP, frs, isFr, ownOf, getO, subOp, plainI, notOw, notOwA, augOp, enumOp, zipOp, intOf, sliOp, revOp, sl_C_law_odds_hold_5, c5, o1]
      · simp [runF, ex, ev, evT, evB, evV, evA, evC, evO, evI, getS, retV, rd_v, sl_v, rd_non, sl_non, rd_int, sl_int, rd_bl, sl_bl, rd_str, sl_str, rd_glob, sl_glob, rd_neg, sl_neg, rd_vnot, sl_vnot, rd_bin, sl_bin, rd_cmp, sl_cmp, rd_isN, sl_isN, rd_notN, sl_notN, rd_chn, sl_chn, rd_vbo, sl_vbo, rd_ife, sl_ife, rd_tup, sl_tup, rd_lst, sl_lst, rd_sub, sl_sub, rd_sli, sl_sli, rd_rev, sl_rev, rd_isi, sl_isi, rd_fn, sl_fn, rd_met, sl_met, rd_call, sl_call, rd_comp, sl_comp, RG.start, T.chk, T.bind, outV, getR, getV, cmpOp, binOp, isiOp, f_len, f_abs, f_sum, f_all, f_tuple, f_sorted, f_repr, m_count, fnLen, fnAbs, fnTuple, asgT, asgT.asgL, wipeR, itOp, truth, plOf, small, RG.setP, frs, isFr, ownOf, getO, subOp, plainI, notOw, notOwA, augOp, enumOp, zipOp, intOf, sliOp, revOp, C_law_odds_hold_5]) (ρ := [.st, .va (.int (d : Int)), .va (odT p d), .va (.int (one : Int)), .va (.int (other : Int)), .ow (.list js), .va (.int (n : Int)), .va (.list (nL (lawP p (d - p) 0))), .va (.int (d ^ 0 : Nat)), a9, a10, a11, .no, .no, .no, .no, .no, .no, .no, .no, .no, .no, .no, .no]) ⟨_, _, rfl⟩
  subst e2
  rw [List.length_range] at e1
  refine ⟨s9, s10, ex_for (ds := (List.range n).map fun i : Nat => PyData.int (i : Int)) rfl ?_ e1⟩
  rw [← rng1 (n := (n : Int)) (m := n) rfl (by omega)]
  generalize nL (lawP p (d - p) 0) = l1
  generalize d ^ 0 = w
  simp [runF, ex, ev, evT, evB, evV, evA, evC, evO, evI, getS, retV, rd_v, sl_v, rd_non, sl_non, rd_int, sl_int, rd_bl, sl_bl, rd_str, sl_str, rd_glob, sl_glob, rd_neg, sl_neg, rd_vnot, sl_vnot, rd_bin, sl_bin, rd_cmp, sl_cmp, rd_isN, sl_isN, rd_notN, sl_notN, rd_chn, sl_chn, rd_vbo, sl_vbo, rd_ife, sl_ife, rd_tup, sl_tup, rd_lst, sl_lst, rd_sub, sl_sub, rd_sli, sl_sli, rd_rev, sl_rev, rd_isi, sl_isi, rd_fn, sl_fn, rd_met, sl_met, rd_call, sl_call, rd_comp, sl_comp, RG.start, T.chk, T.bind, outV, getR, getV, cmpOp, binOp, isiOp, f_len, f_abs, f_sum, f_all, f_tuple, f_sorted, f_repr, m_count, fnLen, fnAbs, fnTuple, asgT, asgT.asgL, wipeR, itOp, truth, plOf, small, RG.setP, frs, isFr, ownOf, getO, subOp, plainI, notOw, notOwA, augOp, enumOp, zipOp, intOf, sliOp, revOp]
theorem o_least (n : Nat) (hp : p ≤ d) (h1 : 1 ≤ d) (hd : d ≤ 6) (hn1 : 1 ≤ n) (hn : n ≤ 10) : ∃ s11, ex (callF tab 11) (.for_ (.v 11) (.irng (.cons (.bin .Add (.v 6) (.int 1)) .nil)) L_law_odds_hold_0) [.st, .va (.int (d : Int)), .va (odT p d), .va (.int (one : Int)), .va (.int (other : Int)), .ow (.list js), .va (.int (n : Int)), .va (.list (nL (lawP p (d - p) n))), .va (.int (d ^ n : Nat)), a9, a10, a11, .no, .no, .no, .no, .no, .no, .no, .no, .no, .no, .no, .no] = .ret (.nx, [.st, .va (.int (d : Int)), .va (odT p d), .va (.int (one : Int)), .va (.int (other : Int)), .ow (.list js), .va (.int (n : Int)), .va (.list (nL (lawP p (d - p) n))), .va (.int (d ^ n : Nat)), a9, a10, s11, .no, .no, .no, .no, .no, .no, .no, .no, .no, .no, .no, .no]) := by
  obtain ⟨ρ', e1, s11, e2⟩ := forG_inv (f := fun d ρ => (asgT (.v 11) d ρ).bind fun ρ' => ex (callF tab 11) L_law_odds_hold_0 ρ') (m := fun i : Nat => PyData.int (i : Int)) (all := List.range (n + 1))
    (I := fun done ρ => ∃ s11, ρ = [.st, .va (.int (d : Int)), .va (odT p d), .va (.int (one : Int)), .va (.int (other : Int)), .ow (.list js), .va (.int (n : Int)), .va (.list (nL (lawP p (d - p) n))), .va (.int (d ^ n : Nat)), a9, a10, s11, .no, .no, .no, .no, .no, .no, .no, .no, .no, .no, .no, .no]) (fun done x rest ρ e ⟨s11, e2⟩ => by
      subst e2
      obtain ⟨_, r2, r3⟩ := range_split e
      rw [← r2] at r3
      refine ⟨_, ?_, .va (.int (x : Int)), rfl⟩
      rw [fold_step]
      have q1 := s_odds_from 7 (p := p) (d := d) (n := n) (l := x) hp h1 hd (by omega) hn1 (by omega)
      obtain ⟨su, su2⟩ := sum_drop n (l := x) hp h1 hd hn (by omega)
      have B1 := tail_b (p := p) (d := d) (n := n) (l := x) hp hd (by omega)
      have B2 := tail_b (p := d - p) (d := d) (n := n) (l := n - x + 1) (Nat.sub_le _ _) hd (by omega)
      have B3 := dn_b (d := d) (n := n) hd (by omega)
      have B4 : 0 < d ^ n := Nat.pow_pos (by omega)
      have q2 : callF tab 11 "_law_quotient" [.va (.int (tailP p d n x : Nat)), .va (.int (d ^ n : Nat))] = .ret (qt (tailP p d n x) (d ^ n)) := s_law_quotient 9 B1 B3 (.inr B4)
      have q3 : callF tab 11 "_law_quotient" [.va (.int (tailP (d - p) d n (n - x + 1) : Nat)), .va (.int (d ^ n : Nat))] = .ret (qt (tailP (d - p) d n (n - x + 1)) (d ^ n)) := s_law_quotient 9 B2 B3 (.inr B4)
      have k1 := cut_from (f := fun k : Nat => PyData.int (k : Int)) (xs := lawP p (d - p) n) (k := x) (by rw [law_len]; omega)
      have k2 := cut_to (f := fun k : Nat => PyData.int (k : Int)) (xs := lawP p (d - p) n) (k := x) (by rw [law_len]; omega)
      have f1 := fnSum_nL ((lawP p (d - p) n).drop x)
      have f2 := fnSum_nL ((lawP p (d - p) n).take x)
      rw [su] at f1
      have okq := ok_qt (tailP p d n x) (d ^ n) (tailP p d n x) (d ^ n)
      have eqq := eq_qt (tailP p d n x) (d ^ n)
      have okq2 := ok_qt (tailP (d - p) d n (n - x + 1)) (d ^ n) (tailP (d - p) d n (n - x + 1)) (d ^ n)
      have eqq2 := eq_qt (tailP (d - p) d n (n - x + 1)) (d ^ n)
      by_cases hx : x = 0
      · generalize qt (tailP p d n x) (d ^ n) = z1 at *
        generalize tailP p d n x = t1 at *
        generalize d ^ n = w at *
        generalize hA : nL ((lawP p (d - p) n).drop x) = A at *
        unfold nL at hA
        rw [hA] at k1
        generalize hB : nL (lawP p (d - p) n) = B at *
        unfold nL at hB
        rw [hB] at k1
        unfold L_law_odds_hold_0
        refine ex_cons (ex_no ?_) (ex_one (ex_no ?_))
        · simp [runF, ex, ev, evT, evB, evV, evA, evC, evO, evI, getS, retV, rd_v, sl_v, rd_non, sl_non, rd_int, sl_int, rd_bl, sl_bl, rd_str, sl_str, rd_glob, sl_glob, rd_neg, sl_neg, rd_vnot, sl_vnot, rd_bin, sl_bin, rd_cmp, sl_cmp, rd_isN, sl_isN, rd_notN, sl_notN, rd_chn, sl_chn, rd_vbo, sl_vbo, rd_ife, sl_ife, rd_tup, sl_tup, rd_lst, sl_lst, rd_sub, sl_sub, rd_sli, sl_sli, rd_rev, sl_rev, rd_isi, sl_isi, rd_fn, sl_fn, rd_met, sl_met, rd_call, sl_call, rd_comp, sl_comp, RG.start, T.chk, T.bind, outV, getR, getV, cmpOp, binOp, isiOp, f_len, f_abs, f_sum, f_all, f_tuple, f_sorted, f_repr, m_count, fnLen, fnAbs, fnTuple, asgT, asgT.asgL, wipeR, itOp, truth, plOf, small, RG.setP, frs, isFr, ownOf, getO, subOp, plainI, notOw, notOwA, augOp, enumOp, zipOp, intOf, sliOp, revOp, k1, f_sum, f1, q1, q2, okq, eqq]
        · simp [runF, ex, ev, evT, evB, evV, evA, evC, evO, evI, getS, retV, rd_v, sl_v, rd_non, sl_non, rd_int, sl_int, rd_bl, sl_bl, rd_str, sl_str, rd_glob, sl_glob, rd_neg, sl_neg, rd_vnot, sl_vnot, rd_bin, sl_bin, rd_cmp, sl_cmp, rd_isN, sl_isN, rd_notN, sl_notN, rd_chn, sl_chn, rd_vbo, sl_vbo, rd_ife, sl_ife, rd_tup, sl_tup, rd_lst, sl_lst, rd_sub, sl_sub, rd_sli, sl_sli, rd_rev, sl_rev, rd_isi, sl_isi, rd_fn, sl_fn, rd_met, sl_met, rd_call, sl_call, rd_comp, sl_comp, RG.start, T.chk, T.bind, outV, getR, getV, cmpOp, binOp, isiOp, f_len, f_abs, f_sum, f_all, f_tuple, f_sorted, f_repr, m_count, fnLen, fnAbs, fnTuple, asgT, asgT.asgL, wipeR, itOp, truth, plOf, small, RG.setP, frs, isFr, ownOf, getO, subOp, plainI, notOw, notOwA, augOp, enumOp, zipOp, intOf, sliOp, revOp, hx]
      · rw [su2 hx] at f2
        have q4 : callF tab 11 "odds_from" [.va (.tuple [.int ((d : Int) - (p : Int)), .int (d : Int)]), .va (.int (n : Int)), .va (.int ((n : Int) - (x : Int) + 1))] = .ret (qt (tailP (d - p) d n (n - x + 1)) (d ^ n)) := by
          have q := s_odds_from 7 (p := d - p) (d := d) (n := n) (l := n - x + 1) (Nat.sub_le _ _) h1 hd (by omega) hn1 (by omega)
          have e1 : ((d - p : Nat) : Int) = (d : Int) - (p : Int) := Int.natCast_sub hp
          have e2 : ((n - x + 1 : Nat) : Int) = (n : Int) - (x : Int) + 1 := by omega
          rw [← e1, ← e2]
          exact q
        generalize qt (tailP (d - p) d n (n - x + 1)) (d ^ n) = z2 at *
        generalize qt (tailP p d n x) (d ^ n) = z1 at *
        generalize tailP (d - p) d n (n - x + 1) = t2 at *
        generalize tailP p d n x = t1 at *
        generalize d ^ n = w at *
        generalize hA : nL ((lawP p (d - p) n).drop x) = A at *
        unfold nL at hA
        rw [hA] at k1
        generalize hC : nL ((lawP p (d - p) n).take x) = C at *
        unfold nL at hC
        rw [hC] at k2
        generalize hB : nL (lawP p (d - p) n) = B at *
        unfold nL at hB
        rw [hB] at k1 k2
        unfold L_law_odds_hold_0
        refine ex_cons (ex_no ?_) (ex_one (ex_no ?_))
        · simp [runF, ex, ev, evT, evB, evV, evA, evC, evO, evI, getS, retV, rd_v, sl_v, rd_non, sl_non, rd_int, sl_int, rd_bl, sl_bl, rd_str, sl_str, rd_glob, sl_glob, rd_neg, sl_neg, rd_vnot, sl_vnot, rd_bin, sl_bin, rd_cmp, sl_cmp, rd_isN, sl_isN, rd_notN, sl_notN, rd_chn, sl_chn, rd_vbo, sl_vbo, rd_ife, sl_ife, rd_tup, sl_tup, rd_lst, sl_lst, rd_sub, sl_sub, rd_sli, sl_sli, rd_rev, sl_rev, rd_isi, sl_isi, rd_fn, sl_fn, rd_met, sl_met, rd_call, sl_call, rd_comp, sl_comp, RG.start, T.chk, T.bind, outV, getR, getV, cmpOp, binOp, isiOp, f_len, f_abs, f_sum, f_all, f_tuple, f_sorted, f_repr, m_count, fnLen, fnAbs, fnTuple, asgT, asgT.asgL, wipeR, itOp, truth, plOf, small, RG.setP, frs, isFr, ownOf, getO, subOp, plainI, notOw, notOwA, augOp, enumOp, zipOp, intOf, sliOp, revOp, k1, f_sum, f1, q1, q2, okq, eqq]
        · simp [runF, ex, ev, evT, evB, evV, evA, evC, evO, evI, getS, retV, rd_v, sl_v, rd_non, sl_non, rd_int, sl_int, rd_bl, sl_bl, rd_str, sl_str, rd_glob, sl_glob, rd_neg, sl_neg, rd_vnot, sl_vnot, rd_bin, sl_bin, rd_cmp, sl_cmp, rd_isN, sl_isN, rd_notN, sl_notN, rd_chn, sl_chn, rd_vbo, sl_vbo, rd_ife, sl_ife, rd_tup, sl_tup, rd_lst, sl_lst, rd_sub, sl_sub, rd_sli, sl_sli, rd_rev, sl_rev, rd_isi, sl_isi, rd_fn, sl_fn, rd_met, sl_met, rd_call, sl_call, rd_comp, sl_comp, RG.start, T.chk, T.bind, outV, getR, getV, cmpOp, binOp, isiOp, f_len, f_abs, f_sum, f_all, f_tuple, f_sorted, f_repr, m_count, fnLen, fnAbs, fnTuple, asgT, asgT.asgL, wipeR, itOp, truth, plOf, small, RG.setP, frs, isFr, ownOf, getO, subOp, plainI, notOw, notOwA, augOp, enumOp, zipOp, intOf, sliOp, revOp, hx, od0, k2, f_sum, f2, q3, q4, okq2, eqq2]) (ρ := [.st, .va (.int (d : Int)), .va (odT p d), .va (.int (one : Int)), .va (.int (other : Int)), .ow (.list js), .va (.int (n : Int)), .va (.list (nL (lawP p (d - p) n))), .va (.int (d ^ n : Nat)), a9, a10, a11, .no, .no, .no, .no, .no, .no, .no, .no, .no, .no, .no, .no]) ⟨_, rfl⟩
  subst e2
  refine ⟨s11, ex_for (ds := (List.range (n + 1)).map fun i : Nat => PyData.int (i : Int)) rfl ?_ e1⟩
  rw [← rng1 (n := (n : Int) + 1) (m := n + 1) rfl (by omega)]
  generalize nL (lawP p (d - p) n) = l1
  generalize d ^ n = w
  simp [runF, ex, ev, evT, evB, evV, evA, evC, evO, evI, getS, retV, rd_v, sl_v, rd_non, sl_non, rd_int, sl_int, rd_bl, sl_bl, rd_str, sl_str, rd_glob, sl_glob, rd_neg, sl_neg, rd_vnot, sl_vnot, rd_bin, sl_bin, rd_cmp, sl_cmp, rd_isN, sl_isN, rd_notN, sl_notN, rd_chn, sl_chn, rd_vbo, sl_vbo, rd_ife, sl_ife, rd_tup, sl_tup, rd_lst, sl_lst, rd_sub, sl_sub, rd_sli, sl_sli, rd_rev, sl_rev, rd_isi, sl_isi, rd_fn, sl_fn, rd_met, sl_met, rd_call, sl_call, rd_comp, sl_comp, RG.start, T.chk, T.bind, outV, getR, getV, cmpOp, binOp, isiOp, f_len, f_abs, f_sum, f_all, f_tuple, f_sorted, f_repr, m_count, fnLen, fnAbs, fnTuple, asgT, asgT.asgL, wipeR, itOp, truth, plOf, small, RG.setP, frs, isFr, ownOf, getO, subOp, plainI, notOw, notOwA, augOp, enumOp, zipOp, intOf, sliOp, revOp]
theorem o_many (n : Nat) (hp : p ≤ d) (h1 : 1 ≤ d) (hd : d ≤ 6) (hn1 : 1 ≤ n) (hn : n ≤ 10) (hj : js.length < 100) : ∃ s6 s7 s8 s9 s10 s11, ex (callF tab 11) L_law_odds_hold_2 [.st, .va (.int (d : Int)), .va (odT p d), .va (.int (one : Int)), .va (.int (other : Int)), .ow (.list js), .va (.int (n : Int)), a7, a8, a9, a10, a11, .no, .no, .no, .no, .no, .no, .no, .no, .no, .no, .no, .no] = .ret (.nx, [.st, .va (.int (d : Int)), .va (odT p d), .va (.int (one : Int)), .va (.int (other : Int)), .ow (.list (js ++ [jD p d n])), s6, s7, s8, s9, s10, s11, .no, .no, .no, .no, .no, .no, .no, .no, .no, .no, .no, .no]) := by
  obtain ⟨s9, s10, e1⟩ := o_turns (one := one) (other := other) (js := js) (a9 := a9) (a10 := a10) (a11 := a11) n hp h1 hd hn
  obtain ⟨s11, e2⟩ := o_least (one := one) (other := other) (js := js ++ [jD p d n]) (a9 := s9) (a10 := s10) (a11 := a11) n hp h1 hd hn1 hn
  unfold L_law_odds_hold_2
  refine ⟨_, _, _, _, _, _, ex_cons (ex_asgP (xs := [.va (.list (nL (lawP p (d - p) 0))), .va (.int (d ^ 0 : Nat))]) rfl rfl) (ex_cons e1 (ex_cons (ex_app (xs := js) rfl (d := jD p d n) ?_ (by omega) rfl) (ex_one e2)))⟩
  unfold jD
  generalize nL (lawP p (d - p) n) = l1
  generalize d ^ n = w
  simp [runF, ex, ev, evT, evB, evV, evA, evC, evO, evI, getS, retV, rd_v, sl_v, rd_non, sl_non, rd_int, sl_int, rd_bl, sl_bl, rd_str, sl_str, rd_glob, sl_glob, rd_neg, sl_neg, rd_vnot, sl_vnot, rd_bin, sl_bin, rd_cmp, sl_cmp, rd_isN, sl_isN, rd_notN, sl_notN, rd_chn, sl_chn, rd_vbo, sl_vbo, rd_ife, sl_ife, rd_tup, sl_tup, rd_lst, sl_lst, rd_sub, sl_sub, rd_sli, sl_sli, rd_rev, sl_rev, rd_isi, sl_isi, rd_fn, sl_fn, rd_met, sl_met, rd_call, sl_call, rd_comp, sl_comp, RG.start, T.chk, T.bind, outV, getR, getV, cmpOp, binOp, isiOp, f_len, f_abs, f_sum, f_all, f_tuple, f_sorted, f_repr, m_count, fnLen, fnAbs, fnTuple, asgT, asgT.asgL, wipeR, itOp, truth, plOf, small, RG.setP, frs, isFr, ownOf, getO, subOp, plainI, notOw, notOwA, augOp, enumOp, zipOp, intOf, sliOp, revOp]
end
end K63
end

section
set_option Elab.async false
set_option linter.all false
set_option maxRecDepth 100000
set_option maxHeartbeats 4000000
/-! Odds: the law's def. -/
namespace K63
open PySem RG
theorem filter_head {p : Nat → Bool} {n x : Nat} {rest : List Nat} (h : (List.range n).filter p = x :: rest) : x < n ∧ p x = true ∧ ∀ i, i < x → p i = false := by
  have hx : x ∈ (List.range n).filter p := by rw [h]; exact List.mem_cons_self
  obtain ⟨h1, h2⟩ := List.mem_filter.mp hx
  have h1 := List.mem_range.mp h1
  refine ⟨h1, h2, fun i hi => ?_⟩
  cases q : p i with
  | false => rfl
  | true =>
    have hm : i ∈ (List.range n).filter p := List.mem_filter.mpr ⟨List.mem_range.mpr (by omega), q⟩
    have hp := (List.pairwise_lt_range (n := n)).filter p
    rw [h] at hm hp
    rcases List.mem_cons.mp hm with z | z
    · omega
    · have := (List.pairwise_cons.mp hp).1 i z
      omega
theorem fw_tail {p d l k : Nat} (hp : p ≤ d) (h1 : 1 ≤ d) (hd : d ≤ 6) (hl1 : 1 ≤ l) (hl : l ≤ 4) (hk : k ≤ 40) : (fwS p d l k).2 = tailP p d k l := by
  have h := allO_of a4 hp h1 hd
  have h2 := List.all_eq_true.mp h l (List.mem_range.mpr (by omega))
  rw [Bool.or_eq_true, Nat.beq_eq] at h2
  rcases h2 with q | q
  · omega
  · exact Nat.eq_of_beq_eq_true (List.all_eq_true.mp q k (List.mem_range.mpr (by omega)))
theorem told_ok {p d l L K : Nat} (hp : p ≤ d) (h1 : 1 ≤ d) (hd : d ≤ 6) (hl1 : 1 ≤ l) (hl : l ≤ 4) (k2 : contF p d l L K = false) (k3 : ∀ i, i < K → contF p d l L i = true) :
    (goodN p d l L = [] → (fwS p d l K).2 * 10 < L * d ^ K ∨ 41 ≤ K) ∧ (∀ g rest, goodN p d l L = g :: rest → ¬ (fwS p d l K).2 * 10 < L * d ^ K ∧ K = g) := by
  unfold contF at k2 k3
  rw [Bool.or_eq_false_iff, Bool.and_eq_false_iff, decide_eq_false_iff_not, decide_eq_false_iff_not, decide_eq_false_iff_not] at k2
  obtain ⟨q1, q2⟩ := k2
  refine ⟨fun hg => ?_, fun g rest hg => ?_⟩
  · by_cases z : (fwS p d l K).2 * 10 < L * d ^ K
    · exact .inl z
    · by_cases z2 : 41 ≤ K
      · exact .inr z2
      · exfalso
        unfold goodN at hg
        have hg := List.map_eq_nil_iff.mp hg
        have hm : K - l ∈ (List.range (41 - l)).filter fun i => !decide (tailP p d (l + i) l * 10 < L * d ^ (l + i)) := List.mem_filter.mpr ⟨List.mem_range.mpr (by omega), by
          rw [show l + (K - l) = K by omega, ← fw_tail hp h1 hd hl1 hl (by omega), decide_eq_false z]
          rfl⟩
        rw [hg] at hm
        exact absurd hm List.not_mem_nil
  · unfold goodN at hg
    obtain ⟨i, r2, hg1, hg2, hg3⟩ := List.map_eq_cons_iff.mp hg
    obtain ⟨f1, f2, f3⟩ := filter_head hg1
    have f2 : ¬ tailP p d (l + i) l * 10 < L * d ^ (l + i) := by simpa using f2
    rw [← fw_tail hp h1 hd hl1 hl (by omega)] at f2
    have hge : K ≤ l + i := by
      by_cases z : l + i < K
      · have := k3 _ z
        rw [Bool.or_eq_true, Bool.and_eq_true, decide_eq_true_eq, decide_eq_true_eq, decide_eq_true_eq] at this
        rcases this with t | t
        · omega
        · exact absurd t.1 f2
      · omega
    have hz : ¬ (fwS p d l K).2 * 10 < L * d ^ K := by
      rcases q2 with t | t
      · exact t
      · omega
    refine ⟨hz, ?_⟩
    by_cases z : K < l + i
    · exfalso
      have f3 := f3 (K - l) (by omega)
      have f3 : tailP p d (l + (K - l)) l * 10 < L * d ^ (l + (K - l)) := by simpa using f3
      rw [show l + (K - l) = K by omega, ← fw_tail hp h1 hd hl1 hl (by omega)] at f3
      exact hz f3
    · omega
theorem W_drawG {Φ : Calls} {r : Sx} {ρ : Rho} {e : E} {i k : Nat} {ρ2 : Int → Rho} {m : Int} {g : Int → PyData} {Q : PyData → Nat → Prop} (h : ev Φ e ρ = .draw m fun d => .ret (g d)) (hr : ∀ d, ρ.set i (.va (g d)) = ρ2 d) (hm : 0 < m) (hm2 : m < 1073741824) (hk : 0 < k)
    (h2 : ∀ d, 0 ≤ d → d < m → W Φ r (ρ2 d) (k - 1) Q) : W Φ (.cons (.asg i false e) r) ρ k Q := by
  refine W_asgW ?_
  rw [h]
  refine ⟨⟨hm, hm2, hk⟩, fun d h0 h1 => ?_⟩
  have q := h2 d h0 h1
  rw [← hr d] at q
  exact q
theorem sh_nL (ns : List Nat) : sh 1 (.list (nL ns)) := sh_list fun x hx => by
  obtain ⟨i, _, rfl⟩ := List.mem_map.mp hx
  exact sh_int
theorem nob_nL (ns : List Nat) : nob (.list (nL ns)) = true := nobL_iff.mpr fun x hx => by
  obtain ⟨i, _, rfl⟩ := List.mem_map.mp hx
  rfl
theorem fewer_eq {p d n h : Nat} (hp : p ≤ d) (h1 : 1 ≤ d) (hd : d ≤ 6) (hn : n ≤ 8) (hh : h ≤ n) : d ^ n = tailP (d - p) d n (n - h) + tailP p d n (h + 1) := by
  have q := allO_of a5 hp h1 hd
  exact Nat.eq_of_beq_eq_true (List.all_eq_true.mp (List.all_eq_true.mp q n (List.mem_range.mpr (by omega))) h (List.mem_range.mpr (by omega)))
def tailN : Nat → Sx → Sx
  | 0, s => s
  | n + 1, .cons _ r => tailN n r
  | _, s => s
section
variable {p d one other : Nat} {a5 a6 a7 a8 a9 a10 a11 a12 a13 a14 a15 a16 a17 a18 a19 a20 a21 a22 a23 : Sl} {Q : PyData → Nat → Prop} {k : Nat}

/-- behind the years -/
theorem o_claim {L : Nat} {ys : List Int} (hp : p ≤ d) (h1 : 1 ≤ d) (hd : d ≤ 6) (hL : L ≤ 10) (hy1 : 1 ≤ ys.length) (hy2 : ys.length ≤ 8) (hy : ∀ y ∈ ys, 0 ≤ y ∧ y < 8) (hk : 1 ≤ k) (hQ : Q (.bool true) (k - 1)) : W (callF tab 11) (tailN 11 F_law_odds_hold_b) [.st, .va (.int (d : Int)), .va (odT p d), .va (.int (one : Int)), .va (.int (other : Int)), a5, a6, a7, a8, a9, a10, a11, a12, a13, .va (odT L 10), a15, a16, .va (yrs ys), a18, a19, a20, a21, a22, a23] k Q := by
  have oky : OKY ys := ⟨hy1, by omega, fun y h => by have := hy y h; omega⟩
  show W (callF tab 11) (.cons _ (.cons _ (.cons _ (.cons _ (.cons _ (.cons _ (.cons _ .nil))))))) _ _ _
  -- level, had
  refine W_asgPW ?_
  have e1 : evC (callF tab 11) (.cons (.call "_law_draw" (.cons (.v 0) (.cons (.int 9) .nil))) (.cons (.int 0) .nil)) [.st, .va (.int (d : Int)), .va (odT p d), .va (.int (one : Int)), .va (.int (other : Int)), a5, a6, a7, a8, a9, a10, a11, a12, a13, .va (odT L 10), a15, a16, .va (yrs ys), a18, a19, a20, a21, a22, a23] = .draw 9 fun x => .ret [.va (.int x), .va (.int 0)] := by simp [runF, ex, ev, evT, evB, evV, evA, evC, evO, evI, getS, retV, rd_v, sl_v, rd_non, sl_non, rd_int, sl_int, rd_bl, sl_bl, rd_str, sl_str, rd_glob, sl_glob, rd_neg, sl_neg, rd_vnot, sl_vnot, rd_bin, sl_bin, rd_cmp, sl_cmp, rd_isN, sl_isN, rd_notN, sl_notN, rd_chn, sl_chn, rd_vbo, sl_vbo, rd_ife, sl_ife, rd_tup, sl_tup, rd_lst, sl_lst, rd_sub, sl_sub, rd_sli, sl_sli, rd_rev, sl_rev, rd_isi, sl_isi, rd_fn, sl_fn, rd_met, sl_met, rd_call, sl_call, rd_comp, sl_comp, RG.start, T.chk, T.bind, outV, getR, getV, cmpOp, binOp, isiOp, f_len, f_abs, f_sum, f_all, f_tuple, f_sorted, f_repr, m_count, fnLen, fnAbs, fnTuple, asgT, asgT.asgL, wipeR, itOp, truth, plOf, small, RG.setP, frs, isFr, ownOf, getO, subOp, plainI, notOw, notOwA, augOp, enumOp, zipOp, intOf, sliOp, revOp, u_draw 10, drawF]
  rw [e1]
  refine ⟨⟨by decide, by decide, hk⟩, fun l l0 l9 => ⟨[.st, .va (.int (d : Int)), .va (odT p d), .va (.int (one : Int)), .va (.int (other : Int)), a5, a6, a7, a8, a9, a10, a11, a12, a13, .va (odT L 10), a15, a16, .va (yrs ys), .va (.int l), .va (.int 0), a20, a21, a22, a23], by simp [runF, ex, ev, evT, evB, evV, evA, evC, evO, evI, getS, retV, rd_v, sl_v, rd_non, sl_non, rd_int, sl_int, rd_bl, sl_bl, rd_str, sl_str, rd_glob, sl_glob, rd_neg, sl_neg, rd_vnot, sl_vnot, rd_bin, sl_bin, rd_cmp, sl_cmp, rd_isN, sl_isN, rd_notN, sl_notN, rd_chn, sl_chn, rd_vbo, sl_vbo, rd_ife, sl_ife, rd_tup, sl_tup, rd_lst, sl_lst, rd_sub, sl_sub, rd_sli, sl_sli, rd_rev, sl_rev, rd_isi, sl_isi, rd_fn, sl_fn, rd_met, sl_met, rd_call, sl_call, rd_comp, sl_comp, RG.start, T.chk, T.bind, outV, getR, getV, cmpOp, binOp, isiOp, f_len, f_abs, f_sum, f_all, f_tuple, f_sorted, f_repr, m_count, fnLen, fnAbs, fnTuple, asgT, asgT.asgL, wipeR, itOp, truth, plOf, small, RG.setP, frs, isFr, ownOf, getO, subOp, plainI, notOw, notOwA, augOp, enumOp, zipOp, intOf, sliOp, revOp], ?_⟩⟩
  have c0 : ev (callF tab 11) C_law_odds_hold_0 [.st, .va (.int (d : Int)), .va (odT p d), .va (.int (one : Int)), .va (.int (other : Int)), a5, a6, a7, a8, a9, a10, a11, a12, a13, .va (odT L 10), a15, a16, .va (yrs ys), .va (.int l), .va (.int 0), a20, a21, a22, a23] = .ret (.list (iL (ys.filter fun o => decide (l ≤ o)))) :=
    e_comp (ds := iL ys) (by simp [runF, ex, ev, evT, evB, evV, evA, evC, evO, evI, getS, retV, rd_v, sl_v, rd_non, sl_non, rd_int, sl_int, rd_bl, sl_bl, rd_str, sl_str, rd_glob, sl_glob, rd_neg, sl_neg, rd_vnot, sl_vnot, rd_bin, sl_bin, rd_cmp, sl_cmp, rd_isN, sl_isN, rd_notN, sl_notN, rd_chn, sl_chn, rd_vbo, sl_vbo, rd_ife, sl_ife, rd_tup, sl_tup, rd_lst, sl_lst, rd_sub, sl_sub, rd_sli, sl_sli, rd_rev, sl_rev, rd_isi, sl_isi, rd_fn, sl_fn, rd_met, sl_met, rd_call, sl_call, rd_comp, sl_comp, RG.start, T.chk, T.bind, outV, getR, getV, cmpOp, binOp, isiOp, f_len, f_abs, f_sum, f_all, f_tuple, f_sorted, f_repr, m_count, fnLen, fnAbs, fnTuple, asgT, asgT.asgL, wipeR, itOp, truth, plOf, small, RG.setP, frs, isFr, ownOf, getO, subOp, plainI, notOw, notOwA, augOp, enumOp, zipOp, intOf, sliOp, revOp]) (lcG_if fun o _ => by
      simp [runF, ex, ev, evT, evB, evV, evA, evC, evO, evI, getS, retV, rd_v, sl_v, rd_non, sl_non, rd_int, sl_int, rd_bl, sl_bl, rd_str, sl_str, rd_glob, sl_glob, rd_neg, sl_neg, rd_vnot, sl_vnot, rd_bin, sl_bin, rd_cmp, sl_cmp, rd_isN, sl_isN, rd_notN, sl_notN, rd_chn, sl_chn, rd_vbo, sl_vbo, rd_ife, sl_ife, rd_tup, sl_tup, rd_lst, sl_lst, rd_sub, sl_sub, rd_sli, sl_sli, rd_rev, sl_rev, rd_isi, sl_isi, rd_fn, sl_fn, rd_met, sl_met, rd_call, sl_call, rd_comp, sl_comp, RG.start, T.chk, T.bind, outV, getR, getV, cmpOp, binOp, isiOp, f_len, f_abs, f_sum, f_all, f_tuple, f_sorted, f_repr, m_count, fnLen, fnAbs, fnTuple, asgT, asgT.asgL, wipeR, itOp, truth, plOf, small, RG.setP, frs, isFr, ownOf, getO, subOp, plainI, notOw, notOwA, augOp, enumOp, zipOp, intOf, sliOp, revOp, lcF]
      by_cases z : l ≤ o <;> simp [z, T.bind])
  have hh : hadN ys l ≤ ys.length := List.length_filter_le _ _
  refine W_asg (d := .int (hadN ys l : Nat)) (ρ2 := [.st, .va (.int (d : Int)), .va (odT p d), .va (.int (one : Int)), .va (.int (other : Int)), a5, a6, a7, a8, a9, a10, a11, a12, a13, .va (odT L 10), a15, a16, .va (yrs ys), .va (.int l), .va (.int (hadN ys l : Nat)), a20, a21, a22, a23]) (by simp [runF, ex, ev, evT, evB, evV, evA, evC, evO, evI, getS, retV, rd_v, sl_v, rd_non, sl_non, rd_int, sl_int, rd_bl, sl_bl, rd_str, sl_str, rd_glob, sl_glob, rd_neg, sl_neg, rd_vnot, sl_vnot, rd_bin, sl_bin, rd_cmp, sl_cmp, rd_isN, sl_isN, rd_notN, sl_notN, rd_chn, sl_chn, rd_vbo, sl_vbo, rd_ife, sl_ife, rd_tup, sl_tup, rd_lst, sl_lst, rd_sub, sl_sub, rd_sli, sl_sli, rd_rev, sl_rev, rd_isi, sl_isi, rd_fn, sl_fn, rd_met, sl_met, rd_call, sl_call, rd_comp, sl_comp, RG.start, T.chk, T.bind, outV, getR, getV, cmpOp, binOp, isiOp, f_len, f_abs, f_sum, f_all, f_tuple, f_sorted, f_repr, m_count, fnLen, fnAbs, fnTuple, asgT, asgT.asgL, wipeR, itOp, truth, plOf, small, RG.setP, frs, isFr, ownOf, getO, subOp, plainI, notOw, notOwA, augOp, enumOp, zipOp, intOf, sliOp, revOp, c0, rd_C_law_odds_hold_0]) (by simp only [List.set]) ?_
  have hF := fewer_eq (n := ys.length) (h := hadN ys l) hp h1 hd hy2 hh
  have q1 := s_odds_from 7 (p := p) (d := d) (n := ys.length) (l := hadN ys l) hp h1 hd hh hy1 (by omega)
  have q2 : callF tab 11 "odds_from" [.va (.tuple [.int ((d : Int) - (p : Int)), .int (d : Int)]), .va (.int (ys.length : Nat)), .va (.int (((ys.length : Nat) : Int) - ((hadN ys l : Nat) : Int)))] = .ret (qt (tailP (d - p) d ys.length (ys.length - hadN ys l)) (d ^ ys.length)) := by
    have q := s_odds_from 7 (p := d - p) (d := d) (n := ys.length) (l := ys.length - hadN ys l) (Nat.sub_le _ _) h1 hd (by omega) hy1 (by omega)
    have e1 : ((d - p : Nat) : Int) = (d : Int) - (p : Int) := Int.natCast_sub hp
    have e2 : ((ys.length - hadN ys l : Nat) : Int) = ((ys.length : Nat) : Int) - ((hadN ys l : Nat) : Int) := Int.natCast_sub hh
    rw [← e1, ← e2]
    exact q
  have q3 := s_judge 7 (p := p) (d := d) (L := L) (ys := ys) (l := l) hp h1 hd hL oky (by omega) ⟨l0, by omega⟩ hF
  unfold judgeD at q3
  have lt1 := qt_lt (u := tailP p d ys.length (hadN ys l)) (d := d ^ ys.length) (a := 10) (b := L) (Nat.pow_pos (by omega))
  have lt2 := qt_lt (u := tailP (d - p) d ys.length (ys.length - hadN ys l)) (d := d ^ ys.length) (a := 10) (b := L) (Nat.pow_pos (by omega))
  have hc1 := lt_cast (a := tailP p d ys.length (hadN ys l) / Nat.gcd (tailP p d ys.length (hadN ys l)) (d ^ ys.length)) (b := 10) (c := L) (e := d ^ ys.length / Nat.gcd (tailP p d ys.length (hadN ys l)) (d ^ ys.length))
  have hc2 := lt_cast (a := tailP (d - p) d ys.length (ys.length - hadN ys l) / Nat.gcd (tailP (d - p) d ys.length (ys.length - hadN ys l)) (d ^ ys.length)) (b := 10) (c := L) (e := d ^ ys.length / Nat.gcd (tailP (d - p) d ys.length (ys.length - hadN ys l)) (d ^ ys.length))
  simp only [lt1] at hc1
  simp only [lt2] at hc2
  have o1 : ∀ x : Int, mulOk x 10 = true := fun x => mulOk_r (by omega)
  have o2 : ∀ x : Int, mulOk (L : Int) x = true := fun x => mulOk_l (by omega)
  have g0 : atD [PyData.int (L : Int), .int 10] 0 = _ := od0 L 10
  have g1 : atD [PyData.int (L : Int), .int 10] 1 = _ := od1 L 10
  have e10 : ((10 : Nat) : Int) = 10 := rfl
  rw [e10] at hc1 hc2 g1
  have x0 := od0 (tailP p d ys.length (hadN ys l) / Nat.gcd (tailP p d ys.length (hadN ys l)) (d ^ ys.length)) (d ^ ys.length / Nat.gcd (tailP p d ys.length (hadN ys l)) (d ^ ys.length))
  have x1 := od1 (tailP p d ys.length (hadN ys l) / Nat.gcd (tailP p d ys.length (hadN ys l)) (d ^ ys.length)) (d ^ ys.length / Nat.gcd (tailP p d ys.length (hadN ys l)) (d ^ ys.length))
  have y0 := od0 (tailP (d - p) d ys.length (ys.length - hadN ys l) / Nat.gcd (tailP (d - p) d ys.length (ys.length - hadN ys l)) (d ^ ys.length)) (d ^ ys.length / Nat.gcd (tailP (d - p) d ys.length (ys.length - hadN ys l)) (d ^ ys.length))
  have y1 := od1 (tailP (d - p) d ys.length (ys.length - hadN ys l) / Nat.gcd (tailP (d - p) d ys.length (ys.length - hadN ys l)) (d ^ ys.length)) (d ^ ys.length / Nat.gcd (tailP (d - p) d ys.length (ys.length - hadN ys l)) (d ^ ys.length))
  unfold qt at q1 q2 q3
  generalize (tailP p d ys.length (hadN ys l) / Nat.gcd (tailP p d ys.length (hadN ys l)) (d ^ ys.length)) = A1 at *
  generalize (d ^ ys.length / Nat.gcd (tailP p d ys.length (hadN ys l)) (d ^ ys.length)) = B1 at *
  generalize (tailP (d - p) d ys.length (ys.length - hadN ys l) / Nat.gcd (tailP (d - p) d ys.length (ys.length - hadN ys l)) (d ^ ys.length)) = A2 at *
  generalize (d ^ ys.length / Nat.gcd (tailP (d - p) d ys.length (ys.length - hadN ys l)) (d ^ ys.length)) = B2 at *
  generalize hadN ys l = had at *
  refine W_asg (d := odT A1 B1) (ρ2 := [.st, .va (.int (d : Int)), .va (odT p d), .va (.int (one : Int)), .va (.int (other : Int)), a5, a6, a7, a8, a9, a10, a11, a12, a13, .va (odT L 10), a15, a16, .va (yrs ys), .va (.int l), .va (.int (had : Nat)), a20, .va (odT A1 B1), a22, a23]) (by simp [runF, ex, ev, evT, evB, evV, evA, evC, evO, evI, getS, retV, rd_v, sl_v, rd_non, sl_non, rd_int, sl_int, rd_bl, sl_bl, rd_str, sl_str, rd_glob, sl_glob, rd_neg, sl_neg, rd_vnot, sl_vnot, rd_bin, sl_bin, rd_cmp, sl_cmp, rd_isN, sl_isN, rd_notN, sl_notN, rd_chn, sl_chn, rd_vbo, sl_vbo, rd_ife, sl_ife, rd_tup, sl_tup, rd_lst, sl_lst, rd_sub, sl_sub, rd_sli, sl_sli, rd_rev, sl_rev, rd_isi, sl_isi, rd_fn, sl_fn, rd_met, sl_met, rd_call, sl_call, rd_comp, sl_comp, RG.start, T.chk, T.bind, outV, getR, getV, cmpOp, binOp, isiOp, f_len, f_abs, f_sum, f_all, f_tuple, f_sorted, f_repr, m_count, fnLen, fnAbs, fnTuple, asgT, asgT.asgL, wipeR, itOp, truth, plOf, small, RG.setP, frs, isFr, ownOf, getO, subOp, plainI, notOw, notOwA, augOp, enumOp, zipOp, intOf, sliOp, revOp, q1]) (by simp only [List.set]) ?_
  refine W_asg (d := odT A2 B2) (ρ2 := [.st, .va (.int (d : Int)), .va (odT p d), .va (.int (one : Int)), .va (.int (other : Int)), a5, a6, a7, a8, a9, a10, a11, a12, a13, .va (odT L 10), a15, a16, .va (yrs ys), .va (.int l), .va (.int (had : Nat)), a20, .va (odT A1 B1), .va (odT A2 B2), a23]) (by simp [runF, ex, ev, evT, evB, evV, evA, evC, evO, evI, getS, retV, rd_v, sl_v, rd_non, sl_non, rd_int, sl_int, rd_bl, sl_bl, rd_str, sl_str, rd_glob, sl_glob, rd_neg, sl_neg, rd_vnot, sl_vnot, rd_bin, sl_bin, rd_cmp, sl_cmp, rd_isN, sl_isN, rd_notN, sl_notN, rd_chn, sl_chn, rd_vbo, sl_vbo, rd_ife, sl_ife, rd_tup, sl_tup, rd_lst, sl_lst, rd_sub, sl_sub, rd_sli, sl_sli, rd_rev, sl_rev, rd_isi, sl_isi, rd_fn, sl_fn, rd_met, sl_met, rd_call, sl_call, rd_comp, sl_comp, RG.start, T.chk, T.bind, outV, getR, getV, cmpOp, binOp, isiOp, f_len, f_abs, f_sum, f_all, f_tuple, f_sorted, f_repr, m_count, fnLen, fnAbs, fnTuple, asgT, asgT.asgL, wipeR, itOp, truth, plOf, small, RG.setP, frs, isFr, ownOf, getO, subOp, plainI, notOw, notOwA, augOp, enumOp, zipOp, intOf, sliOp, revOp, od0, q2]) (by simp only [List.set]) ?_
  have sh1 : ∀ (s : Str) (A B : Nat), (PyData.str s).canLay0 = true → okEq (.tuple [.str s, odT A B]) (.tuple [.str s, odT A B]) = true := fun s A B hs => by
    have q : sh 2 (.tuple [.str s, odT A B]) := sh_tuple fun x hx => by
      rcases List.mem_cons.mp hx with z | z
      · rw [z]; exact ⟨hs, Nat.zero_le _⟩
      · rw [List.mem_singleton.mp z]
        exact sh_tuple fun x hx => by
          rcases List.mem_cons.mp hx with z | z
          · rw [z]; exact sh_int
          · rw [List.mem_singleton.mp z]; exact sh_int
    exact okEq_sh q q (by decide) (by decide)
  have sh2 : okEq (.tuple [.str "fits"]) (.tuple [.str "fits"]) = true := by
    have q : sh 2 (.tuple [.str "fits"]) := sh_tuple fun x hx => by
      rw [List.mem_singleton.mp hx]; exact ⟨by decide +kernel, Nat.zero_le _⟩
    exact okEq_sh q q (by decide) (by decide)
  have eqv1 : ∀ (s : Str) (A B : Nat), PyData.eqv (.tuple [.str s, odT A B]) (.tuple [.str s, odT A B]) = true := fun s A B => (eqv_iff _ _ rfl rfl).mpr rfl
  have eqv2 : PyData.eqv (.tuple [.str "fits"]) (.tuple [.str "fits"]) = true := (eqv_iff _ _ rfl rfl).mpr rfl
  have shm := sh1 "more" A1 B1 (by decide +kernel)
  have shf := sh1 "fewer" A2 B2 (by decide +kernel)
  by_cases z1 : tailP p d ys.length had * 10 < L * d ^ ys.length
  · rw [if_pos z1] at q3
    rw [decide_eq_true z1] at hc1
    have hc1 := of_decide_eq_true hc1
    refine W_asg (d := .tuple [.str "more", odT A1 B1]) (ρ2 := [.st, .va (.int (d : Int)), .va (odT p d), .va (.int (one : Int)), .va (.int (other : Int)), a5, a6, a7, a8, a9, a10, a11, a12, a13, .va (odT L 10), a15, a16, .va (yrs ys), .va (.int l), .va (.int (had : Nat)), a20, .va (odT A1 B1), .va (odT A2 B2), .va (.tuple [.str "more", odT A1 B1])]) (by simp [runF, ex, ev, evT, evB, evV, evA, evC, evO, evI, getS, retV, rd_v, sl_v, rd_non, sl_non, rd_int, sl_int, rd_bl, sl_bl, rd_str, sl_str, rd_glob, sl_glob, rd_neg, sl_neg, rd_vnot, sl_vnot, rd_bin, sl_bin, rd_cmp, sl_cmp, rd_isN, sl_isN, rd_notN, sl_notN, rd_chn, sl_chn, rd_vbo, sl_vbo, rd_ife, sl_ife, rd_tup, sl_tup, rd_lst, sl_lst, rd_sub, sl_sub, rd_sli, sl_sli, rd_rev, sl_rev, rd_isi, sl_isi, rd_fn, sl_fn, rd_met, sl_met, rd_call, sl_call, rd_comp, sl_comp, RG.start, T.chk, T.bind, outV, getR, getV, cmpOp, binOp, isiOp, f_len, f_abs, f_sum, f_all, f_tuple, f_sorted, f_repr, m_count, fnLen, fnAbs, fnTuple, asgT, asgT.asgL, wipeR, itOp, truth, plOf, small, RG.setP, frs, isFr, ownOf, getO, subOp, plainI, notOw, notOwA, augOp, enumOp, zipOp, intOf, sliOp, revOp, q3]) (by simp only [List.set]) ?_
    refine W_yesR (d := .bool true) (by simp [runF, ex, ev, evT, evB, evV, evA, evC, evO, evI, getS, retV, rd_v, sl_v, rd_non, sl_non, rd_int, sl_int, rd_bl, sl_bl, rd_str, sl_str, rd_glob, sl_glob, rd_neg, sl_neg, rd_vnot, sl_vnot, rd_bin, sl_bin, rd_cmp, sl_cmp, rd_isN, sl_isN, rd_notN, sl_notN, rd_chn, sl_chn, rd_vbo, sl_vbo, rd_ife, sl_ife, rd_tup, sl_tup, rd_lst, sl_lst, rd_sub, sl_sub, rd_sli, sl_sli, rd_rev, sl_rev, rd_isi, sl_isi, rd_fn, sl_fn, rd_met, sl_met, rd_call, sl_call, rd_comp, sl_comp, RG.start, T.chk, T.bind, outV, getR, getV, cmpOp, binOp, isiOp, f_len, f_abs, f_sum, f_all, f_tuple, f_sorted, f_repr, m_count, fnLen, fnAbs, fnTuple, asgT, asgT.asgL, wipeR, itOp, truth, plOf, small, RG.setP, frs, isFr, ownOf, getO, subOp, plainI, notOw, notOwA, augOp, enumOp, zipOp, intOf, sliOp, revOp, x0, x1, g0, g1, o1, o2, hc1]) (by simp [runF, ex, ev, evT, evB, evV, evA, evC, evO, evI, getS, retV, rd_v, sl_v, rd_non, sl_non, rd_int, sl_int, rd_bl, sl_bl, rd_str, sl_str, rd_glob, sl_glob, rd_neg, sl_neg, rd_vnot, sl_vnot, rd_bin, sl_bin, rd_cmp, sl_cmp, rd_isN, sl_isN, rd_notN, sl_notN, rd_chn, sl_chn, rd_vbo, sl_vbo, rd_ife, sl_ife, rd_tup, sl_tup, rd_lst, sl_lst, rd_sub, sl_sub, rd_sli, sl_sli, rd_rev, sl_rev, rd_isi, sl_isi, rd_fn, sl_fn, rd_met, sl_met, rd_call, sl_call, rd_comp, sl_comp, RG.start, T.chk, T.bind, outV, getR, getV, cmpOp, binOp, isiOp, f_len, f_abs, f_sum, f_all, f_tuple, f_sorted, f_repr, m_count, fnLen, fnAbs, fnTuple, asgT, asgT.asgL, wipeR, itOp, truth, plOf, small, RG.setP, frs, isFr, ownOf, getO, subOp, plainI, notOw, notOwA, augOp, enumOp, zipOp, intOf, sliOp, revOp, shm, eqv1]) hQ
  · rw [if_neg z1] at q3
    rw [decide_eq_false z1] at hc1
    have hc1 := of_decide_eq_false hc1
    by_cases z2 : tailP (d - p) d ys.length (ys.length - had) * 10 < L * d ^ ys.length
    · rw [if_pos z2] at q3
      rw [decide_eq_true z2] at hc2
      have hc2 := of_decide_eq_true hc2
      refine W_asg (d := .tuple [.str "fewer", odT A2 B2]) (ρ2 := [.st, .va (.int (d : Int)), .va (odT p d), .va (.int (one : Int)), .va (.int (other : Int)), a5, a6, a7, a8, a9, a10, a11, a12, a13, .va (odT L 10), a15, a16, .va (yrs ys), .va (.int l), .va (.int (had : Nat)), a20, .va (odT A1 B1), .va (odT A2 B2), .va (.tuple [.str "fewer", odT A2 B2])]) (by simp [runF, ex, ev, evT, evB, evV, evA, evC, evO, evI, getS, retV, rd_v, sl_v, rd_non, sl_non, rd_int, sl_int, rd_bl, sl_bl, rd_str, sl_str, rd_glob, sl_glob, rd_neg, sl_neg, rd_vnot, sl_vnot, rd_bin, sl_bin, rd_cmp, sl_cmp, rd_isN, sl_isN, rd_notN, sl_notN, rd_chn, sl_chn, rd_vbo, sl_vbo, rd_ife, sl_ife, rd_tup, sl_tup, rd_lst, sl_lst, rd_sub, sl_sub, rd_sli, sl_sli, rd_rev, sl_rev, rd_isi, sl_isi, rd_fn, sl_fn, rd_met, sl_met, rd_call, sl_call, rd_comp, sl_comp, RG.start, T.chk, T.bind, outV, getR, getV, cmpOp, binOp, isiOp, f_len, f_abs, f_sum, f_all, f_tuple, f_sorted, f_repr, m_count, fnLen, fnAbs, fnTuple, asgT, asgT.asgL, wipeR, itOp, truth, plOf, small, RG.setP, frs, isFr, ownOf, getO, subOp, plainI, notOw, notOwA, augOp, enumOp, zipOp, intOf, sliOp, revOp, q3]) (by simp only [List.set]) ?_
      refine W_no (by simp [runF, ex, ev, evT, evB, evV, evA, evC, evO, evI, getS, retV, rd_v, sl_v, rd_non, sl_non, rd_int, sl_int, rd_bl, sl_bl, rd_str, sl_str, rd_glob, sl_glob, rd_neg, sl_neg, rd_vnot, sl_vnot, rd_bin, sl_bin, rd_cmp, sl_cmp, rd_isN, sl_isN, rd_notN, sl_notN, rd_chn, sl_chn, rd_vbo, sl_vbo, rd_ife, sl_ife, rd_tup, sl_tup, rd_lst, sl_lst, rd_sub, sl_sub, rd_sli, sl_sli, rd_rev, sl_rev, rd_isi, sl_isi, rd_fn, sl_fn, rd_met, sl_met, rd_call, sl_call, rd_comp, sl_comp, RG.start, T.chk, T.bind, outV, getR, getV, cmpOp, binOp, isiOp, f_len, f_abs, f_sum, f_all, f_tuple, f_sorted, f_repr, m_count, fnLen, fnAbs, fnTuple, asgT, asgT.asgL, wipeR, itOp, truth, plOf, small, RG.setP, frs, isFr, ownOf, getO, subOp, plainI, notOw, notOwA, augOp, enumOp, zipOp, intOf, sliOp, revOp, x0, x1, g0, g1, o1, o2, hc1]) ?_
      refine W_ret (d := .bool true) (by simp [runF, ex, ev, evT, evB, evV, evA, evC, evO, evI, getS, retV, rd_v, sl_v, rd_non, sl_non, rd_int, sl_int, rd_bl, sl_bl, rd_str, sl_str, rd_glob, sl_glob, rd_neg, sl_neg, rd_vnot, sl_vnot, rd_bin, sl_bin, rd_cmp, sl_cmp, rd_isN, sl_isN, rd_notN, sl_notN, rd_chn, sl_chn, rd_vbo, sl_vbo, rd_ife, sl_ife, rd_tup, sl_tup, rd_lst, sl_lst, rd_sub, sl_sub, rd_sli, sl_sli, rd_rev, sl_rev, rd_isi, sl_isi, rd_fn, sl_fn, rd_met, sl_met, rd_call, sl_call, rd_comp, sl_comp, RG.start, T.chk, T.bind, outV, getR, getV, cmpOp, binOp, isiOp, f_len, f_abs, f_sum, f_all, f_tuple, f_sorted, f_repr, m_count, fnLen, fnAbs, fnTuple, asgT, asgT.asgL, wipeR, itOp, truth, plOf, small, RG.setP, frs, isFr, ownOf, getO, subOp, plainI, notOw, notOwA, augOp, enumOp, zipOp, intOf, sliOp, revOp, y0, y1, g0, g1, o1, o2, hc2, shf, eqv1]) hQ
    · rw [if_neg z2] at q3
      rw [decide_eq_false z2] at hc2
      have hc2 := of_decide_eq_false hc2
      refine W_asg (d := .tuple [.str "fits"]) (ρ2 := [.st, .va (.int (d : Int)), .va (odT p d), .va (.int (one : Int)), .va (.int (other : Int)), a5, a6, a7, a8, a9, a10, a11, a12, a13, .va (odT L 10), a15, a16, .va (yrs ys), .va (.int l), .va (.int (had : Nat)), a20, .va (odT A1 B1), .va (odT A2 B2), .va (.tuple [.str "fits"])]) (by simp [runF, ex, ev, evT, evB, evV, evA, evC, evO, evI, getS, retV, rd_v, sl_v, rd_non, sl_non, rd_int, sl_int, rd_bl, sl_bl, rd_str, sl_str, rd_glob, sl_glob, rd_neg, sl_neg, rd_vnot, sl_vnot, rd_bin, sl_bin, rd_cmp, sl_cmp, rd_isN, sl_isN, rd_notN, sl_notN, rd_chn, sl_chn, rd_vbo, sl_vbo, rd_ife, sl_ife, rd_tup, sl_tup, rd_lst, sl_lst, rd_sub, sl_sub, rd_sli, sl_sli, rd_rev, sl_rev, rd_isi, sl_isi, rd_fn, sl_fn, rd_met, sl_met, rd_call, sl_call, rd_comp, sl_comp, RG.start, T.chk, T.bind, outV, getR, getV, cmpOp, binOp, isiOp, f_len, f_abs, f_sum, f_all, f_tuple, f_sorted, f_repr, m_count, fnLen, fnAbs, fnTuple, asgT, asgT.asgL, wipeR, itOp, truth, plOf, small, RG.setP, frs, isFr, ownOf, getO, subOp, plainI, notOw, notOwA, augOp, enumOp, zipOp, intOf, sliOp, revOp, q3]) (by simp only [List.set]) ?_
      refine W_no (by simp [runF, ex, ev, evT, evB, evV, evA, evC, evO, evI, getS, retV, rd_v, sl_v, rd_non, sl_non, rd_int, sl_int, rd_bl, sl_bl, rd_str, sl_str, rd_glob, sl_glob, rd_neg, sl_neg, rd_vnot, sl_vnot, rd_bin, sl_bin, rd_cmp, sl_cmp, rd_isN, sl_isN, rd_notN, sl_notN, rd_chn, sl_chn, rd_vbo, sl_vbo, rd_ife, sl_ife, rd_tup, sl_tup, rd_lst, sl_lst, rd_sub, sl_sub, rd_sli, sl_sli, rd_rev, sl_rev, rd_isi, sl_isi, rd_fn, sl_fn, rd_met, sl_met, rd_call, sl_call, rd_comp, sl_comp, RG.start, T.chk, T.bind, outV, getR, getV, cmpOp, binOp, isiOp, f_len, f_abs, f_sum, f_all, f_tuple, f_sorted, f_repr, m_count, fnLen, fnAbs, fnTuple, asgT, asgT.asgL, wipeR, itOp, truth, plOf, small, RG.setP, frs, isFr, ownOf, getO, subOp, plainI, notOw, notOwA, augOp, enumOp, zipOp, intOf, sliOp, revOp, x0, x1, g0, g1, o1, o2, hc1]) ?_
      refine W_ret (d := .bool true) (by simp [runF, ex, ev, evT, evB, evV, evA, evC, evO, evI, getS, retV, rd_v, sl_v, rd_non, sl_non, rd_int, sl_int, rd_bl, sl_bl, rd_str, sl_str, rd_glob, sl_glob, rd_neg, sl_neg, rd_vnot, sl_vnot, rd_bin, sl_bin, rd_cmp, sl_cmp, rd_isN, sl_isN, rd_notN, sl_notN, rd_chn, sl_chn, rd_vbo, sl_vbo, rd_ife, sl_ife, rd_tup, sl_tup, rd_lst, sl_lst, rd_sub, sl_sub, rd_sli, sl_sli, rd_rev, sl_rev, rd_isi, sl_isi, rd_fn, sl_fn, rd_met, sl_met, rd_call, sl_call, rd_comp, sl_comp, RG.start, T.chk, T.bind, outV, getR, getV, cmpOp, binOp, isiOp, f_len, f_abs, f_sum, f_all, f_tuple, f_sorted, f_repr, m_count, fnLen, fnAbs, fnTuple, asgT, asgT.asgL, wipeR, itOp, truth, plOf, small, RG.setP, frs, isFr, ownOf, getO, subOp, plainI, notOw, notOwA, augOp, enumOp, zipOp, intOf, sliOp, revOp, y0, y1, g0, g1, o1, o2, hc2, sh2, eqv2]) hQ
/-- behind the loop over numbers of years: both together, the fewest years, then the years -/
theorem o_mid (hp : p ≤ d) (h1 : 1 ≤ d) (hd : d ≤ 6) (ho1 : 1 ≤ one) (ho : one ≤ 5) (hr1 : 1 ≤ other) (hr : other ≤ 5) (hk : 12 ≤ k) (hQ : ∀ k', k - 12 ≤ k' → Q (.bool true) k') : W (callF tab 11) (tailN 4 F_law_odds_hold_b) [.st, .va (.int (d : Int)), .va (odT p d), .va (.int (one : Int)), .va (.int (other : Int)), .ow (.list [jD p d one, jD p d other, jD p d (one + other)]), a6, a7, a8, a9, a10, a11, a12, a13, a14, a15, a16, a17, a18, a19, a20, a21, a22, a23] k Q := by
  show W (callF tab 11) (.cons _ (.cons _ (.cons _ (.cons _ (.cons _ (.cons _ (.cons _ _))))))) _ _ _
  refine W_asg (ρ2 := [.st, .va (.int (d : Int)), .va (odT p d), .va (.int (one : Int)), .va (.int (other : Int)), .ow (.list [jD p d one, jD p d other, jD p d (one + other)]), a6, a7, a8, a9, a10, a11, .va (.list (nL (lawP p (d - p) (one + other)))), a13, a14, a15, a16, a17, a18, a19, a20, a21, a22, a23]) (oc4 hp h1 hd ho hr) (by simp only [List.set]) ?_
  have t0 : atD [jD p d one, jD p d other, jD p d (one + other)] 0 = .ret (jD p d one) := at_of (k := 0) rfl rfl
  have t1 : atD [jD p d one, jD p d other, jD p d (one + other)] 1 = .ret (jD p d other) := at_of (k := 1) rfl rfl
  have t2 : atD [jD p d one, jD p d other, jD p d (one + other)] 2 = .ret (jD p d (one + other)) := at_of (k := 2) rfl rfl
  have okl := okEq_sh (sh_nL (lawP p (d - p) (one + other))) (sh_nL (lawP p (d - p) (one + other))) (by decide) (by decide)
  have eql : PyData.eqv (.list (nL (lawP p (d - p) (one + other)))) (.list (nL (lawP p (d - p) (one + other)))) = true := (eqv_iff _ _ (nob_nL _) (nob_nL _)).mpr rfl
  have eql2 : PyData.eqvAll (nL (lawP p (d - p) (one + other))) (nL (lawP p (d - p) (one + other))) = true := (eqvAll_iff _ _ (nob_nL _) (nob_nL _)).mpr rfl
  have n1 : evT (callF tab 11) (.tbo .Or (.cons (.tcmp .NotEq (.v 12) (.sub (.sub (.v 5) (.int 2)) (.int 0))) (.cons (.tcmp .NotEq (.bin .Mult (.sub (.sub (.v 5) (.int 0)) (.int 1)) (.sub (.sub (.v 5) (.int 1)) (.int 1))) (.sub (.sub (.v 5) (.int 2)) (.int 1))) .nil))) [.st, .va (.int (d : Int)), .va (odT p d), .va (.int (one : Int)), .va (.int (other : Int)), .ow (.list [jD p d one, jD p d other, jD p d (one + other)]), a6, a7, a8, a9, a10, a11, .va (.list (nL (lawP p (d - p) (one + other)))), a13, a14, a15, a16, a17, a18, a19, a20, a21, a22, a23] = .ret false := by
    have u0 := j1 p d one
    have u1 := j1 p d other
    have u2 := j0 p d (one + other)
    have u3 := j1 p d (one + other)
    have pw : ((d ^ one : Nat) : Int) * ((d ^ other : Nat) : Int) = ((d ^ (one + other) : Nat) : Int) := by rw [← Int.natCast_mul, Nat.pow_add]
    have mo : mulOk ((d ^ one : Nat) : Int) ((d ^ other : Nat) : Int) = true := mulOk_l (by
      rw [Int.natAbs_natCast]
      exact Nat.lt_of_le_of_lt (Nat.le_trans (Nat.pow_le_pow_left hd one) (Nat.pow_le_pow_right (by decide) ho)) (by decide))
    unfold jD at *
    generalize nL (lawP p (d - p) one) = l1 at *
    generalize nL (lawP p (d - p) other) = l2 at *
    generalize nL (lawP p (d - p) (one + other)) = l3 at *
    generalize ((d ^ one : Nat) : Int) = w1 at *
    generalize ((d ^ other : Nat) : Int) = w2 at *
    generalize ((d ^ (one + other) : Nat) : Int) = w3 at *
    simp [runF, ex, ev, evT, evB, evV, evA, evC, evO, evI, getS, retV, rd_v, sl_v, rd_non, sl_non, rd_int, sl_int, rd_bl, sl_bl, rd_str, sl_str, rd_glob, sl_glob, rd_neg, sl_neg, rd_vnot, sl_vnot, rd_bin, sl_bin, rd_cmp, sl_cmp, rd_isN, sl_isN, rd_notN, sl_notN, rd_chn, sl_chn, rd_vbo, sl_vbo, rd_ife, sl_ife, rd_tup, sl_tup, rd_lst, sl_lst, rd_sub, sl_sub, rd_sli, sl_sli, rd_rev, sl_rev, rd_isi, sl_isi, rd_fn, sl_fn, rd_met, sl_met, rd_call, sl_call, rd_comp, sl_comp, RG.start, T.chk, T.bind, outV, getR, getV, cmpOp, binOp, isiOp, f_len, f_abs, f_sum, f_all, f_tuple, f_sorted, f_repr, m_count, fnLen, fnAbs, fnTuple, asgT, asgT.asgL, wipeR, itOp, truth, plOf, small, RG.setP, frs, isFr, ownOf, getO, subOp, plainI, notOw, notOwA, augOp, enumOp, zipOp, intOf, sliOp, revOp, t0, t1, t2, u0, u1, u2, u3, okl, eql2, pw, mo, okI, PyData.eqv]
  refine W_no n1 ?_
  generalize Sl.ow (.list [jD p d one, jD p d other, jD p d (one + other)]) = b5
  generalize Sl.va (.list (nL (lawP p (d - p) (one + other)))) = b12
  -- least, limit
  refine W_asgPW ?_
  have e1 : evC (callF tab 11) (.cons (.bin .Add (.int 1) (.call "_law_draw" (.cons (.v 0) (.cons (.int 4) .nil)))) (.cons (.tup (.cons (.call "_law_draw" (.cons (.v 0) (.cons (.int 10) .nil))) (.cons (.int 10) .nil))) .nil)) [.st, .va (.int (d : Int)), .va (odT p d), .va (.int (one : Int)), .va (.int (other : Int)), b5, a6, a7, a8, a9, a10, a11, b12, a13, a14, a15, a16, a17, a18, a19, a20, a21, a22, a23] = .draw 4 fun x => .draw 10 fun y => .ret [.va (.int (1 + x)), .va (.tuple [.int y, .int 10])] := by simp [runF, ex, ev, evT, evB, evV, evA, evC, evO, evI, getS, retV, rd_v, sl_v, rd_non, sl_non, rd_int, sl_int, rd_bl, sl_bl, rd_str, sl_str, rd_glob, sl_glob, rd_neg, sl_neg, rd_vnot, sl_vnot, rd_bin, sl_bin, rd_cmp, sl_cmp, rd_isN, sl_isN, rd_notN, sl_notN, rd_chn, sl_chn, rd_vbo, sl_vbo, rd_ife, sl_ife, rd_tup, sl_tup, rd_lst, sl_lst, rd_sub, sl_sub, rd_sli, sl_sli, rd_rev, sl_rev, rd_isi, sl_isi, rd_fn, sl_fn, rd_met, sl_met, rd_call, sl_call, rd_comp, sl_comp, RG.start, T.chk, T.bind, outV, getR, getV, cmpOp, binOp, isiOp, f_len, f_abs, f_sum, f_all, f_tuple, f_sorted, f_repr, m_count, fnLen, fnAbs, fnTuple, asgT, asgT.asgL, wipeR, itOp, truth, plOf, small, RG.setP, frs, isFr, ownOf, getO, subOp, plainI, notOw, notOwA, augOp, enumOp, zipOp, intOf, sliOp, revOp, u_draw 10, drawF]
  rw [e1]
  refine ⟨⟨by decide, by decide, by omega⟩, fun x hx0 hx1 => ⟨⟨by decide, by decide, by omega⟩, fun y hy0 hy1 => ?_⟩⟩
  obtain ⟨l, hl⟩ : ∃ l : Nat, 1 + x = (l : Int) := ⟨(1 + x).toNat, by omega⟩
  obtain ⟨L, hL⟩ : ∃ l : Nat, y = (l : Int) := ⟨y.toNat, by omega⟩
  rw [hl, hL]
  have l1 : 1 ≤ l := by omega
  have l4 : l ≤ 4 := by omega
  have L10 : L ≤ 10 := by omega
  refine ⟨[.st, .va (.int (d : Int)), .va (odT p d), .va (.int (one : Int)), .va (.int (other : Int)), b5, a6, a7, a8, a9, a10, .va (.int (l : Int)), b12, a13, .va (odT L 10), a15, a16, a17, a18, a19, a20, a21, a22, a23], rfl, ?_⟩
  refine W_asg (ρ2 := [.st, .va (.int (d : Int)), .va (odT p d), .va (.int (one : Int)), .va (.int (other : Int)), b5, a6, a7, a8, a9, a10, .va (.int (l : Int)), b12, a13, .va (odT L 10), .va (.list (nL (goodN p d l L))), a16, a17, a18, a19, a20, a21, a22, a23]) (oc2 hp h1 hd l1 l4 L10) (by simp only [List.set]) ?_
  obtain ⟨K, k1, k2, k3, few⟩ := s_fewest 7 (p := p) (d := d) (l := l) (L := L) hp h1 hd l1 l4 L10
  obtain ⟨tA, tB⟩ := told_ok (L := L) hp h1 hd l1 l4 k2 k3
  refine W_asg (d := if (fwS p d l K).2 * 10 < L * d ^ K then .none else .int (K : Int)) (ρ2 := [.st, .va (.int (d : Int)), .va (odT p d), .va (.int (one : Int)), .va (.int (other : Int)), b5, a6, a7, a8, a9, a10, .va (.int (l : Int)), b12, a13, .va (odT L 10), .va (.list (nL (goodN p d l L))), .va (if (fwS p d l K).2 * 10 < L * d ^ K then .none else .int (K : Int)), a17, a18, a19, a20, a21, a22, a23]) (by
    have few : callF tab 11 "fewest_years" [.va (odT p d), .va (.int (l : Int)), .va (odT L 10)] = _ := few
    generalize (if (fwS p d l K).2 * 10 < L * d ^ K then PyData.none else .int (K : Int)) = told at *
    have e10 : ((10 : Nat) : Int) = 10 := rfl
    simp [runF, ex, ev, evT, evB, evV, evA, evC, evO, evI, getS, retV, rd_v, sl_v, rd_non, sl_non, rd_int, sl_int, rd_bl, sl_bl, rd_str, sl_str, rd_glob, sl_glob, rd_neg, sl_neg, rd_vnot, sl_vnot, rd_bin, sl_bin, rd_cmp, sl_cmp, rd_isN, sl_isN, rd_notN, sl_notN, rd_chn, sl_chn, rd_vbo, sl_vbo, rd_ife, sl_ife, rd_tup, sl_tup, rd_lst, sl_lst, rd_sub, sl_sub, rd_sli, sl_sli, rd_rev, sl_rev, rd_isi, sl_isi, rd_fn, sl_fn, rd_met, sl_met, rd_call, sl_call, rd_comp, sl_comp, RG.start, T.chk, T.bind, outV, getR, getV, cmpOp, binOp, isiOp, f_len, f_abs, f_sum, f_all, f_tuple, f_sorted, f_repr, m_count, fnLen, fnAbs, fnTuple, asgT, asgT.asgL, wipeR, itOp, truth, plOf, small, RG.setP, frs, isFr, ownOf, getO, subOp, plainI, notOw, notOwA, augOp, enumOp, zipOp, intOf, sliOp, revOp, few]) (by simp only [List.set]) ?_
  refine W_no ?_ ?_
  · cases hg : goodN p d l L with
    | nil =>
      rcases tA hg with z | z
      · rw [if_pos z]
        simp [runF, ex, ev, evT, evB, evV, evA, evC, evO, evI, getS, retV, rd_v, sl_v, rd_non, sl_non, rd_int, sl_int, rd_bl, sl_bl, rd_str, sl_str, rd_glob, sl_glob, rd_neg, sl_neg, rd_vnot, sl_vnot, rd_bin, sl_bin, rd_cmp, sl_cmp, rd_isN, sl_isN, rd_notN, sl_notN, rd_chn, sl_chn, rd_vbo, sl_vbo, rd_ife, sl_ife, rd_tup, sl_tup, rd_lst, sl_lst, rd_sub, sl_sub, rd_sli, sl_sli, rd_rev, sl_rev, rd_isi, sl_isi, rd_fn, sl_fn, rd_met, sl_met, rd_call, sl_call, rd_comp, sl_comp, RG.start, T.chk, T.bind, outV, getR, getV, cmpOp, binOp, isiOp, f_len, f_abs, f_sum, f_all, f_tuple, f_sorted, f_repr, m_count, fnLen, fnAbs, fnTuple, asgT, asgT.asgL, wipeR, itOp, truth, plOf, small, RG.setP, frs, isFr, ownOf, getO, subOp, plainI, notOw, notOwA, augOp, enumOp, zipOp, intOf, sliOp, revOp]
      · by_cases z2 : (fwS p d l K).2 * 10 < L * d ^ K
        · rw [if_pos z2]
          simp [runF, ex, ev, evT, evB, evV, evA, evC, evO, evI, getS, retV, rd_v, sl_v, rd_non, sl_non, rd_int, sl_int, rd_bl, sl_bl, rd_str, sl_str, rd_glob, sl_glob, rd_neg, sl_neg, rd_vnot, sl_vnot, rd_bin, sl_bin, rd_cmp, sl_cmp, rd_isN, sl_isN, rd_notN, sl_notN, rd_chn, sl_chn, rd_vbo, sl_vbo, rd_ife, sl_ife, rd_tup, sl_tup, rd_lst, sl_lst, rd_sub, sl_sub, rd_sli, sl_sli, rd_rev, sl_rev, rd_isi, sl_isi, rd_fn, sl_fn, rd_met, sl_met, rd_call, sl_call, rd_comp, sl_comp, RG.start, T.chk, T.bind, outV, getR, getV, cmpOp, binOp, isiOp, f_len, f_abs, f_sum, f_all, f_tuple, f_sorted, f_repr, m_count, fnLen, fnAbs, fnTuple, asgT, asgT.asgL, wipeR, itOp, truth, plOf, small, RG.setP, frs, isFr, ownOf, getO, subOp, plainI, notOw, notOwA, augOp, enumOp, zipOp, intOf, sliOp, revOp]
        · rw [if_neg z2]
          simp [runF, ex, ev, evT, evB, evV, evA, evC, evO, evI, getS, retV, rd_v, sl_v, rd_non, sl_non, rd_int, sl_int, rd_bl, sl_bl, rd_str, sl_str, rd_glob, sl_glob, rd_neg, sl_neg, rd_vnot, sl_vnot, rd_bin, sl_bin, rd_cmp, sl_cmp, rd_isN, sl_isN, rd_notN, sl_notN, rd_chn, sl_chn, rd_vbo, sl_vbo, rd_ife, sl_ife, rd_tup, sl_tup, rd_lst, sl_lst, rd_sub, sl_sub, rd_sli, sl_sli, rd_rev, sl_rev, rd_isi, sl_isi, rd_fn, sl_fn, rd_met, sl_met, rd_call, sl_call, rd_comp, sl_comp, RG.start, T.chk, T.bind, outV, getR, getV, cmpOp, binOp, isiOp, f_len, f_abs, f_sum, f_all, f_tuple, f_sorted, f_repr, m_count, fnLen, fnAbs, fnTuple, asgT, asgT.asgL, wipeR, itOp, truth, plOf, small, RG.setP, frs, isFr, ownOf, getO, subOp, plainI, notOw, notOwA, augOp, enumOp, zipOp, intOf, sliOp, revOp, show ¬ (K : Int) < 41 by omega]
    | cons g rest =>
      obtain ⟨z1, z2⟩ := tB g rest hg
      rw [if_neg z1, z2]
      have g0 : atD (PyData.int (g : Int) :: nL rest) 0 = .ret (.int (g : Int)) := at_of (k := 0) rfl rfl
      have ei : PyData.eqv (.int (g : Int)) (.int (g : Int)) = true := by simp [PyData.eqv]
      show evT (callF tab 11) _ [.st, .va (.int (d : Int)), .va (odT p d), .va (.int (one : Int)), .va (.int (other : Int)), b5, a6, a7, a8, a9, a10, .va (.int (l : Int)), b12, a13, .va (odT L 10), .va (.list (PyData.int (g : Int) :: nL rest)), .va (.int (g : Int)), a17, a18, a19, a20, a21, a22, a23] = _
      generalize nL rest = rest' at *
      simp [runF, ex, ev, evT, evB, evV, evA, evC, evO, evI, getS, retV, rd_v, sl_v, rd_non, sl_non, rd_int, sl_int, rd_bl, sl_bl, rd_str, sl_str, rd_glob, sl_glob, rd_neg, sl_neg, rd_vnot, sl_vnot, rd_bin, sl_bin, rd_cmp, sl_cmp, rd_isN, sl_isN, rd_notN, sl_notN, rd_chn, sl_chn, rd_vbo, sl_vbo, rd_ife, sl_ife, rd_tup, sl_tup, rd_lst, sl_lst, rd_sub, sl_sub, rd_sli, sl_sli, rd_rev, sl_rev, rd_isi, sl_isi, rd_fn, sl_fn, rd_met, sl_met, rd_call, sl_call, rd_comp, sl_comp, RG.start, T.chk, T.bind, outV, getR, getV, cmpOp, binOp, isiOp, f_len, f_abs, f_sum, f_all, f_tuple, f_sorted, f_repr, m_count, fnLen, fnAbs, fnTuple, asgT, asgT.asgL, wipeR, itOp, truth, plOf, small, RG.setP, frs, isFr, ownOf, getO, subOp, plainI, notOw, notOwA, augOp, enumOp, zipOp, intOf, sliOp, revOp, g0, okI, ei]
  -- the years
  generalize Sl.va (.list (nL (goodN p d l L))) = b15
  generalize Sl.va (if (fwS p d l K).2 * 10 < L * d ^ K then PyData.none else .int (K : Int)) = b16
  show W (callF tab 11) (.cons (.asg 17 false (.fn "tuple" (.cons C_law_odds_hold_1 .nil))) (tailN 11 F_law_odds_hold_b)) _ _ _
  refine W_asgW ?_
  unfold C_law_odds_hold_1
  refine wp_row (m := 8) (n := 8) ?_ (by decide) (by decide) (fun x => ?_) (by decide) (by decide) (by have : (8 : Int).toNat = 8 := rfl; omega) fun ys k' h1' h2' h3' h4' => ?_
  · simp [runF, ex, ev, evT, evB, evV, evA, evC, evO, evI, getS, retV, rd_v, sl_v, rd_non, sl_non, rd_int, sl_int, rd_bl, sl_bl, rd_str, sl_str, rd_glob, sl_glob, rd_neg, sl_neg, rd_vnot, sl_vnot, rd_bin, sl_bin, rd_cmp, sl_cmp, rd_isN, sl_isN, rd_notN, sl_notN, rd_chn, sl_chn, rd_vbo, sl_vbo, rd_ife, sl_ife, rd_tup, sl_tup, rd_lst, sl_lst, rd_sub, sl_sub, rd_sli, sl_sli, rd_rev, sl_rev, rd_isi, sl_isi, rd_fn, sl_fn, rd_met, sl_met, rd_call, sl_call, rd_comp, sl_comp, RG.start, T.chk, T.bind, outV, getR, getV, cmpOp, binOp, isiOp, f_len, f_abs, f_sum, f_all, f_tuple, f_sorted, f_repr, m_count, fnLen, fnAbs, fnTuple, asgT, asgT.asgL, wipeR, itOp, truth, plOf, small, RG.setP, frs, isFr, ownOf, getO, subOp, plainI, notOw, notOwA, augOp, enumOp, zipOp, intOf, sliOp, revOp, u_draw 10, drawF]
  · simp [runF, ex, ev, evT, evB, evV, evA, evC, evO, evI, getS, retV, rd_v, sl_v, rd_non, sl_non, rd_int, sl_int, rd_bl, sl_bl, rd_str, sl_str, rd_glob, sl_glob, rd_neg, sl_neg, rd_vnot, sl_vnot, rd_bin, sl_bin, rd_cmp, sl_cmp, rd_isN, sl_isN, rd_notN, sl_notN, rd_chn, sl_chn, rd_vbo, sl_vbo, rd_ife, sl_ife, rd_tup, sl_tup, rd_lst, sl_lst, rd_sub, sl_sub, rd_sli, sl_sli, rd_rev, sl_rev, rd_isi, sl_isi, rd_fn, sl_fn, rd_met, sl_met, rd_call, sl_call, rd_comp, sl_comp, RG.start, T.chk, T.bind, outV, getR, getV, cmpOp, binOp, isiOp, f_len, f_abs, f_sum, f_all, f_tuple, f_sorted, f_repr, m_count, fnLen, fnAbs, fnTuple, asgT, asgT.asgL, wipeR, itOp, truth, plOf, small, RG.setP, frs, isFr, ownOf, getO, subOp, plainI, notOw, notOwA, augOp, enumOp, zipOp, intOf, sliOp, revOp, lcF, u_draw 10, drawF]
  · have h4' : k - 2 - 9 ≤ k' := by
      have : (8 : Int).toNat = 8 := rfl
      omega
    exact o_claim (L := L) (ys := ys) hp h1 hd L10 h1' (by omega) h3' (by omega) (hQ _ (by omega))
end
end K63
end

section
set_option Elab.async false
set_option linter.all false
set_option maxRecDepth 100000
set_option maxHeartbeats 4000000
/-! Odds: with the draws; the law's loop. -/
namespace K63
open PySem RG

theorem s_odds_hold {k : Nat} (hk : 16 ≤ k) : (callF tab 12 "_law_odds_hold" [.st]).wp k fun d k' => d = .bool true ∧ k - 16 ≤ k' := by
  rw [u_law_odds_hold, go_def rfl]
  refine W_iff.mp ?_
  have e : F_law_odds_hold.body = F_law_odds_hold_b := rfl
  have e2 : RG.start F_law_odds_hold [.st] = [.st, .no, .no, .no, .no, .no, .no, .no, .no, .no, .no, .no, .no, .no, .no, .no, .no, .no, .no, .no, .no, .no, .no, .no] := rfl
  rw [e, e2]
  show W (callF tab 11) (.cons _ (.cons _ (.cons _ (.cons _ (tailN 4 F_law_odds_hold_b))))) _ _ _
  refine W_drawG (m := 6) (g := fun x => .int (1 + x)) (ρ2 := fun x => [.st, .va (.int (1 + x)), .no, .no, .no, .no, .no, .no, .no, .no, .no, .no, .no, .no, .no, .no, .no, .no, .no, .no, .no, .no, .no, .no]) (by simp [runF, ex, ev, evT, evB, evV, evA, evC, evO, evI, getS, retV, rd_v, sl_v, rd_non, sl_non, rd_int, sl_int, rd_bl, sl_bl, rd_str, sl_str, rd_glob, sl_glob, rd_neg, sl_neg, rd_vnot, sl_vnot, rd_bin, sl_bin, rd_cmp, sl_cmp, rd_isN, sl_isN, rd_notN, sl_notN, rd_chn, sl_chn, rd_vbo, sl_vbo, rd_ife, sl_ife, rd_tup, sl_tup, rd_lst, sl_lst, rd_sub, sl_sub, rd_sli, sl_sli, rd_rev, sl_rev, rd_isi, sl_isi, rd_fn, sl_fn, rd_met, sl_met, rd_call, sl_call, rd_comp, sl_comp, RG.start, T.chk, T.bind, outV, getR, getV, cmpOp, binOp, isiOp, f_len, f_abs, f_sum, f_all, f_tuple, f_sorted, f_repr, m_count, fnLen, fnAbs, fnTuple, asgT, asgT.asgL, wipeR, itOp, truth, plOf, small, RG.setP, frs, isFr, ownOf, getO, subOp, plainI, notOw, notOwA, augOp, enumOp, zipOp, intOf, sliOp, revOp, u_draw 10, drawF]) (fun _ => rfl) (by decide) (by decide) (by omega) fun x hx0 hx1 => ?_
  obtain ⟨d, hd⟩ : ∃ l : Nat, 1 + x = (l : Int) := ⟨(1 + x).toNat, by omega⟩
  simp only [hd]
  have h1 : 1 ≤ d := by omega
  have h6 : d ≤ 6 := by omega
  refine W_asgPW ?_
  have e1 : evC (callF tab 11) (.cons (.tup (.cons (.call "_law_draw" (.cons (.v 0) (.cons (.bin .Add (.v 1) (.int 1)) .nil))) (.cons (.v 1) .nil))) (.cons (.bin .Add (.int 1) (.call "_law_draw" (.cons (.v 0) (.cons (.int 5) .nil)))) (.cons (.bin .Add (.int 1) (.call "_law_draw" (.cons (.v 0) (.cons (.int 5) .nil)))) .nil))) [.st, .va (.int (d : Int)), .no, .no, .no, .no, .no, .no, .no, .no, .no, .no, .no, .no, .no, .no, .no, .no, .no, .no, .no, .no, .no, .no] = .draw ((d : Int) + 1) fun a => .draw 5 fun b => .draw 5 fun c => .ret [.va (.tuple [.int a, .int (d : Int)]), .va (.int (1 + b)), .va (.int (1 + c))] := by simp [runF, ex, ev, evT, evB, evV, evA, evC, evO, evI, getS, retV, rd_v, sl_v, rd_non, sl_non, rd_int, sl_int, rd_bl, sl_bl, rd_str, sl_str, rd_glob, sl_glob, rd_neg, sl_neg, rd_vnot, sl_vnot, rd_bin, sl_bin, rd_cmp, sl_cmp, rd_isN, sl_isN, rd_notN, sl_notN, rd_chn, sl_chn, rd_vbo, sl_vbo, rd_ife, sl_ife, rd_tup, sl_tup, rd_lst, sl_lst, rd_sub, sl_sub, rd_sli, sl_sli, rd_rev, sl_rev, rd_isi, sl_isi, rd_fn, sl_fn, rd_met, sl_met, rd_call, sl_call, rd_comp, sl_comp, RG.start, T.chk, T.bind, outV, getR, getV, cmpOp, binOp, isiOp, f_len, f_abs, f_sum, f_all, f_tuple, f_sorted, f_repr, m_count, fnLen, fnAbs, fnTuple, asgT, asgT.asgL, wipeR, itOp, truth, plOf, small, RG.setP, frs, isFr, ownOf, getO, subOp, plainI, notOw, notOwA, augOp, enumOp, zipOp, intOf, sliOp, revOp, u_draw 10, drawF]
  rw [e1]
  refine ⟨⟨by omega, by omega, by omega⟩, fun a ha0 ha1 => ⟨⟨by decide, by decide, by omega⟩, fun b hb0 hb1 => ⟨⟨by decide, by decide, by omega⟩, fun c hc0 hc1 => ?_⟩⟩⟩
  obtain ⟨p, hp⟩ : ∃ l : Nat, a = (l : Int) := ⟨a.toNat, by omega⟩
  obtain ⟨one, hone⟩ : ∃ l : Nat, 1 + b = (l : Int) := ⟨(1 + b).toNat, by omega⟩
  obtain ⟨other, hother⟩ : ∃ l : Nat, 1 + c = (l : Int) := ⟨(1 + c).toNat, by omega⟩
  show (T.ret [Sl.va (.tuple [.int a, .int (d : Int)]), Sl.va (.int (1 + b)), Sl.va (.int (1 + c))]).wp _ _
  rw [hp, hone, hother]
  have hpd : p ≤ d := by omega
  refine ⟨[.st, .va (.int (d : Int)), .va (odT p d), .va (.int (one : Int)), .va (.int (other : Int)), .no, .no, .no, .no, .no, .no, .no, .no, .no, .no, .no, .no, .no, .no, .no, .no, .no, .no, .no], rfl, ?_⟩
  refine W_asgO (ds := []) (ρ2 := [.st, .va (.int (d : Int)), .va (odT p d), .va (.int (one : Int)), .va (.int (other : Int)), .ow (.list []), .no, .no, .no, .no, .no, .no, .no, .no, .no, .no, .no, .no, .no, .no, .no, .no, .no, .no]) rfl rfl rfl ?_
  obtain ⟨b6, b7, b8, b9, b10, b11, m1⟩ := o_many (p := p) (d := d) (one := one) (other := other) (js := []) (a7 := .no) (a8 := .no) (a9 := .no) (a10 := .no) (a11 := .no) one hpd h1 h6 (by omega) (by omega) (by decide)
  obtain ⟨c6, c7, c8, c9, c10, c11, m2⟩ := o_many (p := p) (d := d) (one := one) (other := other) (js := [jD p d one]) (a7 := b7) (a8 := b8) (a9 := b9) (a10 := b10) (a11 := b11) other hpd h1 h6 (by omega) (by omega) (by simp)
  obtain ⟨d6, d7, d8, d9, d10, d11, m3⟩ := o_many (p := p) (d := d) (one := one) (other := other) (js := [jD p d one, jD p d other]) (a7 := c7) (a8 := c8) (a9 := c9) (a10 := c10) (a11 := c11) (one + other) hpd h1 h6 (by omega) (by omega) (by simp)
  have hi : evI (callF tab 11) (.ival (.lst (.cons (.v 3) (.cons (.v 4) (.cons (.bin .Add (.v 3) (.v 4)) .nil))))) [.st, .va (.int (d : Int)), .va (odT p d), .va (.int (one : Int)), .va (.int (other : Int)), .ow (.list []), .no, .no, .no, .no, .no, .no, .no, .no, .no, .no, .no, .no, .no, .no, .no, .no, .no, .no] = .ret [.int (one : Int), .int (other : Int), .int ((one + other : Nat) : Int)] := by
    have ea : ((one + other : Nat) : Int) = (one : Int) + (other : Int) := Int.natCast_add _ _
    rw [ea]
    simp [runF, ex, ev, evT, evB, evV, evA, evC, evO, evI, getS, retV, rd_v, sl_v, rd_non, sl_non, rd_int, sl_int, rd_bl, sl_bl, rd_str, sl_str, rd_glob, sl_glob, rd_neg, sl_neg, rd_vnot, sl_vnot, rd_bin, sl_bin, rd_cmp, sl_cmp, rd_isN, sl_isN, rd_notN, sl_notN, rd_chn, sl_chn, rd_vbo, sl_vbo, rd_ife, sl_ife, rd_tup, sl_tup, rd_lst, sl_lst, rd_sub, sl_sub, rd_sli, sl_sli, rd_rev, sl_rev, rd_isi, sl_isi, rd_fn, sl_fn, rd_met, sl_met, rd_call, sl_call, rd_comp, sl_comp, RG.start, T.chk, T.bind, outV, getR, getV, cmpOp, binOp, isiOp, f_len, f_abs, f_sum, f_all, f_tuple, f_sorted, f_repr, m_count, fnLen, fnAbs, fnTuple, asgT, asgT.asgL, wipeR, itOp, truth, plOf, small, RG.setP, frs, isFr, ownOf, getO, subOp, plainI, notOw, notOwA, augOp, enumOp, zipOp, intOf, sliOp, revOp]
  refine W_for (ρ' := [.st, .va (.int (d : Int)), .va (odT p d), .va (.int (one : Int)), .va (.int (other : Int)), .ow (.list [jD p d one, jD p d other, jD p d (one + other)]), d6, d7, d8, d9, d10, d11, .no, .no, .no, .no, .no, .no, .no, .no, .no, .no, .no, .no]) rfl hi ?_ ?_
  · have n1 := (fold_step (Φ := callF tab 11) 6 L_law_odds_hold_2 (.int (one : Int)) [.st, .va (.int (d : Int)), .va (odT p d), .va (.int (one : Int)), .va (.int (other : Int)), .ow (.list []), .no, .no, .no, .no, .no, .no, .no, .no, .no, .no, .no, .no, .no, .no, .no, .no, .no, .no]).trans m1
    have n2 := (fold_step (Φ := callF tab 11) 6 L_law_odds_hold_2 (.int (other : Int)) [.st, .va (.int (d : Int)), .va (odT p d), .va (.int (one : Int)), .va (.int (other : Int)), .ow (.list [jD p d one]), b6, b7, b8, b9, b10, b11, .no, .no, .no, .no, .no, .no, .no, .no, .no, .no, .no, .no]).trans m2
    have n3 := (fold_step (Φ := callF tab 11) 6 L_law_odds_hold_2 (.int ((one + other : Nat) : Int)) [.st, .va (.int (d : Int)), .va (odT p d), .va (.int (one : Int)), .va (.int (other : Int)), .ow (.list [jD p d one, jD p d other]), c6, c7, c8, c9, c10, c11, .no, .no, .no, .no, .no, .no, .no, .no, .no, .no, .no, .no]).trans m3
    exact (forG_nx (f := fun d ρ => (asgT (.v 6) d ρ).bind fun ρ' => ex (callF tab 11) L_law_odds_hold_2 ρ') n1).trans ((forG_nx (f := fun d ρ => (asgT (.v 6) d ρ).bind fun ρ' => ex (callF tab 11) L_law_odds_hold_2 ρ') n2).trans ((forG_nx (f := fun d ρ => (asgT (.v 6) d ρ).bind fun ρ' => ex (callF tab 11) L_law_odds_hold_2 ρ') n3).trans forG_nil))
  · exact o_mid (one := one) (other := other) hpd h1 h6 (by omega) (by omega) (by omega) (by omega) (by omega) fun k' hk' => ⟨rfl, by omega⟩
/-! the law -/
section
variable {Φ : Calls} {s0 s2 : Sl} {k : Nat}
/-- such a call comes true, with at most so many draws -/
def Tr (Φ : Calls) (f : Str) (c : Nat) : Prop := ∀ k, c ≤ k → (Φ f [.st]).wp k fun d k' => d = .bool true ∧ k - c ≤ k'
theorem tr_not {f : Str} {c : Nat} (h : Tr Φ f c) (hk : c ≤ k) : (evT Φ (.tnot (.tval (.call f (.cons (.v 1) .nil)))) [s0, .st, s2]).wp k fun b k' => b = false ∧ k - c ≤ k' := by
  show (((Φ f [.st]).bind truth).bind fun b => T.ret (!b)).wp k _
  rw [T.wp_bind, T.wp_bind]
  refine T.wp_mono (fun d k' ⟨h1, h2⟩ => ?_) (h k hk)
  subst h1
  exact ⟨rfl, h2⟩
theorem tr_turn (h1 : Tr Φ "_law_years_hold" 11) (h2 : Tr Φ "_law_records_hold" 1) (h3 : Tr Φ "_law_odds_hold" 16) (hk : 28 ≤ k) : (ex Φ L_law_0 [s0, .st, s2]).wp k fun q k' => q = (.nx, [s0, .st, s2]) ∧ k - 28 ≤ k' := by
  show ((((evT Φ (.tnot (.tval (.call "_law_years_hold" (.cons (.v 1) .nil)))) [s0, .st, s2]).bind fun b => if b then T.ret true else
    (evT Φ (.tnot (.tval (.call "_law_records_hold" (.cons (.v 1) .nil)))) [s0, .st, s2]).bind fun b => if b then T.ret true else
    (evT Φ (.tnot (.tval (.call "_law_odds_hold" (.cons (.v 1) .nil)))) [s0, .st, s2]).bind fun b => T.ret b).bind fun b => if b then ex Φ (.cons (.ret (.bl false)) .nil) [s0, .st, s2] else T.ret (Fl.nx, [s0, .st, s2])).bind fun q => match q.1 with
      | .nx => T.ret (Fl.nx, q.2)
      | f => T.ret (f, q.2)).wp k _
  rw [T.wp_bind, T.wp_bind, T.wp_bind]
  refine T.wp_mono (fun b k1 ⟨hb, hk1⟩ => ?_) (tr_not h1 (by omega))
  subst hb
  show (T.bind _ _).wp k1 _
  rw [T.wp_bind]
  refine T.wp_mono (fun b k2 ⟨hb, hk2⟩ => ?_) (tr_not h2 (by omega))
  subst hb
  show (T.bind _ _).wp k2 _
  rw [T.wp_bind]
  refine T.wp_mono (fun b k3 ⟨hb, hk3⟩ => ?_) (tr_not h3 (by omega))
  subst hb
  exact ⟨rfl, by omega⟩
theorem tr_law (h1 : Tr Φ "_law_years_hold" 11) (h2 : Tr Φ "_law_records_hold" 1) (h3 : Tr Φ "_law_odds_hold" 16) (hk : 56 ≤ k) : ((ex Φ lawBody rho0).bind outV).wp k fun d _ => d = .bool true := by
  show ((((((ex Φ L_law_0 [.no, .st, .va (.int 0)]).bind fun p => match p.1 with
    | .nx => ((ex Φ L_law_0 (p.2.set 2 (.va (.int 1)))).bind fun p => match p.1 with
      | .nx => T.ret (Fl.nx, p.2)
      | .ct => T.ret (Fl.nx, p.2)
      | .bk => T.ret (Fl.nx, p.2)
      | .rt v => T.ret (Fl.rt v, p.2))
    | .ct => ((ex Φ L_law_0 (p.2.set 2 (.va (.int 1)))).bind fun p => match p.1 with
      | .nx => T.ret (Fl.nx, p.2)
      | .ct => T.ret (Fl.nx, p.2)
      | .bk => T.ret (Fl.nx, p.2)
      | .rt v => T.ret (Fl.rt v, p.2))
    | .bk => T.ret (Fl.nx, p.2)
    | .rt v => T.ret (Fl.rt v, p.2)).bind fun p => match p.1 with
    | .nx => ex Φ (.cons (.ret (.bl true)) .nil) p.2
    | f => T.ret (f, p.2))).bind outV)).wp k _
  rw [T.wp_bind, T.wp_bind, T.wp_bind]
  refine T.wp_mono (fun q k1 ⟨hq, hk1⟩ => ?_) (tr_turn h1 h2 h3 (by omega))
  subst hq
  show (T.bind (ex Φ L_law_0 [.no, .st, .va (.int 1)]) _).wp k1 _
  rw [T.wp_bind]
  refine T.wp_mono (fun q k2 ⟨hq, hk2⟩ => ?_) (tr_turn h1 h2 h3 (by omega))
  subst hq
  exact rfl
end
theorem plain : ((ex (callF tab 12) lawBody rho0).bind outV).wp 1000000 fun d _ => d = .bool true :=
  tr_law (fun _ hk => s_years_hold hk) (fun _ hk => s_records_hold hk) (fun _ hk => s_odds_hold hk) (by decide)
end K63
end

set_option Elab.async false
theorem PySem.Challenge.cw_raingauged_k63_whole_records_and_odds_of_holds : PySem.Challenge.rw_raingauged_k63_whole_records_and_odds_of.Holds := by
  exact K63.holds_of K63.plain
