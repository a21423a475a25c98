import PyProof.Rows.All
import Wide.All
import OpenK.AllK
import Wide.FinOn
import PySem.Challenge.RW_pagestyles_k74_contents_and_index_as_flo
import HandS.ForMost
import HandS.IsInst
import HandS.ForExc
import HandS.CallSlots
import HandS.TupAny
import HandS.SortInts
import HandS.RaiseMore
import HandS.DictComp
import HandS.More
import HandS.List
import HandS.WordsDict
import HandS.Walk
import HandS.Words
import HandS.WordsExc
import HandS.Defaults
import HandS.Ends
import HandS.Head0
import HandS.Head1
import HandS.Head2
import HandS.HeadEnd
import HandS.HeadHook1
import HandS.HeadHook2
import HandS.HeadHook3
import HandS.HeadHook4
set_option Elab.async false
set_option linter.all false
set_option maxRecDepth 100000
set_option maxHeartbeats 4000000
/-! VmA: data, code, and the functional semantics. -/
namespace Vm
open PySem

/-- data: tuples are values, everything that may change lies in the store -/
inductive Dv where
  | non | bl (b : Bool) | int (i : Int) | str (x : Str) | tup (xs : List Dv) | ref (n : Nat) | ty (n : String)
  /-- a list that is read only (the script, a list of the module) -/
  | rol (xs : List Dv)

abbrev Key := L2.Key
/-- what lies in the store -/
inductive Cel where
  | lst (xs : List Dv)
  | dct (kvs : List (Key × Dv))
  /-- a dict while a loop walks it -/
  | fd (kvs : List (Key × Dv))

abbrev Sto := List Cel
abbrev Envr := List (Option Dv)
structure Exn where
  cls : Str
  fs : List (Str × Dv)

inductive Res (α : Type) where
  | ok (a : α) (S : Sto)
  | rs (x : Exn) (S : Sto)
  | no

namespace Res
def bind {α β : Type} : Res α → (α → Sto → Res β) → Res β
  | ok a S, k => k a S
  | rs x S, _ => rs x S
  | no, _ => no
@[simp] theorem bind_ok {α β : Type} (a : α) (S : Sto) (k : α → Sto → Res β) : (ok a S).bind k = k a S := rfl
@[simp] theorem bind_rs {α β : Type} (x : Exn) (S : Sto) (k : α → Sto → Res β) : (rs x S).bind k = rs x S := rfl
@[simp] theorem bind_no {α β : Type} (k : α → Sto → Res β) : (no : Res α).bind k = no := rfl
/-- what is wanted of an outcome -/
def sat {α : Type} (A : α → Sto → Prop) (B : Exn → Sto → Prop) : Res α → Prop
  | ok a S => A a S
  | rs x S => B x S
  | no => False
theorem sat_bind {α β : Type} {A : β → Sto → Prop} {B : Exn → Sto → Prop} {r : Res α} {k : α → Sto → Res β} : (r.bind k).sat A B ↔ r.sat (fun a S => (k a S).sat A B) B := by
  cases r <;> exact Iff.rfl
theorem sat_mono {α : Type} {A A' : α → Sto → Prop} {B B' : Exn → Sto → Prop} {r : Res α} (h : r.sat A B) (f : ∀ a S, A a S → A' a S) (g : ∀ x S, B x S → B' x S) : r.sat A' B' := by
  cases r with
  | ok a S => exact f _ _ h
  | rs x S => exact g _ _ h
  | no => exact h
end Res

/-! ### code -/
/-- the built-in functions and types that are called by name -/
inductive Blt where
  | abs | len | int | str | sorted | tuple | list | dict | isinstance | bool
  deriving DecidableEq
/-- methods of built-in types -/
inductive Mth where
  | append | join | update
  deriving DecidableEq

mutual
inductive Ec where
  | cst (d : Dv)
  | var (i : Nat)
  /-- a built-in type's name as a value -/
  | bty (x : String)
  /-- a constant of the module -/
  | gl (x : Str)
  | bin (o : Operator) (a b : Ec)
  | neg (a : Ec)
  | cmp (o : CmpOp) (a b : Ec)
  | chn (o o' : CmpOp) (a b c : Ec)
  | bo (o : BoolOp) (es : Es)
  | nt (a : Ec)
  | tup (es : Es)
  | lst (es : Es)
  | dct (ps : Ps)
  | call (f : Nat) (es : Es)
  | blt (b : Blt) (es : Es)
  | mth (m : Mth) (o : Ec) (es : Es)
  | ix (a b : Ec)
  | sl (a : Ec) (lo hi : Po)
  | lc (own : List (Str × Nat)) (g : Gc) (it : Ic) (ifs : Oc) (e : Ec)
inductive Es where
  | nil
  | cons (e : Ec) (r : Es)
inductive Ps where
  | nil
  | cons (k v : Ec) (r : Ps)
inductive Po where
  | none
  | one (e : Ec)
inductive Oc where
  | none
  | one (t : Tc)
inductive Tc where
  | cmp (o : CmpOp) (a b : Ec)
  | chn (o o' : CmpOp) (a b c : Ec)
  | bo (o : BoolOp) (ts : Ts)
  | nt (t : Tc)
  | tr (e : Ec)
inductive Ts where
  | nil
  | cons (t : Tc) (r : Ts)
inductive Gc where
  | nm (i : Nat)
  | tup (gs : Gs)
  | ix (a b : Ec)
inductive Gs where
  | nil
  | cons (g : Gc) (r : Gs)
inductive Ic where
  | e (e : Ec)
  | rng (es : Es)
  | items (e : Ec)
end
mutual
inductive Sc where
  | asg (g : Gc) (e : Ec)
  | aug (i : Nat) (o : Operator) (e : Ec)
  | ex (e : Ec)
  | ret (e : Ec)
  | retn
  | ite (t : Tc) (a b : Bc)
  | fr (g : Gc) (it : Ic) (b : Bc)
  | wh (n : Nat) (t : Tc) (b : Bc)
  | pass
  | brk
  | cont
inductive Bc where
  | nil
  | cons (s : Sc) (r : Bc)
end

def Gs.len : Gs → Nat
  | .nil => 0
  | .cons _ r => r.len + 1
/-! ### operations on data -/
/-- the longest list, text or tuple of the model -/
abbrev LIM : Nat := 16777216
def seqv (S : Sto) : Dv → Option (List Dv)
  | .tup xs => some xs
  | .rol xs => some xs
  | .ref n => match S[n]? with
    | some (.lst xs) => some xs
    | _ => none
  | _ => none
def new (c : Cel) (S : Sto) : Res Dv := .ok (.ref S.length) (S ++ [c])
def keyv : Dv → Option Key
  | .int i => some (.inl i)
  | .str x => some (.inr x)
  | _ => none
def getD (kvs : List (Key × Dv)) (k : Key) : Option Dv := (kvs.find? fun kv => decide (kv.1 = k)).map (·.2)
def putD (kvs : List (Key × Dv)) (k : Key) (v : Dv) : List (Key × Dv) :=
  if (kvs.any fun kv => decide (kv.1 = k)) = true then kvs.map (fun kv => if kv.1 = k then (kv.1, v) else kv) else kvs ++ [(k, v)]
def mergeD (kvs more : List (Key × Dv)) : List (Key × Dv) := more.foldl (fun acc kv => putD acc kv.1 kv.2) kvs

def binop : Operator → Dv → Dv → Sto → Res Dv
  | .Add, .int i, .int j, S => .ok (.int (i + j)) S
  | .Add, .str x, .str y, S => if x.length + y.length ≤ LIM then .ok (.str (x ++ y)) S else .no
  | .Add, .tup xs, .tup ys, S => if xs.length + ys.length ≤ LIM then .ok (.tup (xs ++ ys)) S else .no
  | .Add, .ref a, .ref b, S => match S[a]?, S[b]? with
    | some (.lst xs), some (.lst ys) => if xs.length + ys.length ≤ LIM then new (.lst (xs ++ ys)) S else .no
    | _, _ => .no
  | .Sub, .int i, .int j, S => .ok (.int (i - j)) S
  | .Mult, .int i, .int j, S => if (-(2 ^ 64) < i ∧ i < 2 ^ 64) ∨ (-(2 ^ 64) < j ∧ j < 2 ^ 64) then .ok (.int (i * j)) S else .no
  | .FloorDiv, .int i, .int j, S => if 0 < j ∧ j < 1073741824 then .ok (.int (i / j)) S else .no
  | .Mod, .int i, .int j, S => if 0 < j then .ok (.int (i % j)) S else .no
  | .Pow, .int i, .int j, S => if 0 ≤ j ∧ j ≤ 1000000 ∧ i.natAbs < 2 ^ 64 then .ok (.int (i ^ j.toNat)) S else .no
  | _, _, _, _ => .no

/-- == of flat data -/
def feq : Dv → Dv → Option Bool
  | .non, .non => some true
  | .non, .int _ => some false | .int _, .non => some false
  | .non, .bl _ => some false | .bl _, .non => some false
  | .non, .str _ => some false | .str _, .non => some false
  | .int i, .int j => some (decide (i = j))
  | .bl i, .bl j => some (decide (i = j))
  | .str i, .str j => some (decide (i = j))
  | .int _, .str _ => some false | .str _, .int _ => some false
  | .bl _, .str _ => some false | .str _, .bl _ => some false
  | _, _ => none
/-- equal flat data -/
def sameD : Dv → Dv → Bool
  | .non, .non => true
  | .bl i, .bl j => decide (i = j)
  | .int i, .int j => decide (i = j)
  | .str i, .str j => decide (i = j)
  | _, _ => false
def dctSame (ks ls : List (Key × Dv)) : Bool := decide (ks.length = ls.length) && ks.all fun p => match getD ls p.1 with
  | some d => sameD p.2 d
  | none => false
/-- lists and tuples as plain data -/
def vws (f : Dv → Option PyData) : List Dv → Option (List PyData)
  | [] => some []
  | d :: r => match f d, vws f r with
    | some p, some ps => some (p :: ps)
    | _, _ => none
def vw (S : Sto) : Nat → Dv → Option PyData
  | 0, _ => none
  | n + 1, d => match d with
    | .non => some .none
    | .bl b => some (.bool b)
    | .int i => some (.int i)
    | .str x => some (.str x)
    | .tup xs => (vws (vw S n) xs).map .tuple
    | .rol xs => (vws (vw S n) xs).map .list
    | .ref k => match S[k]? with
      | some (.lst xs) => (vws (vw S n) xs).map .list
      | _ => none
    | .ty _ => none
def deepEq (S : Sto) (x y : Dv) : Option Bool := match vw S 64 x, vw S 64 y with
  | some p, some q => if SeqAt.shaped p = true ∧ SeqAt.shaped q = true then some (PyData.eqv p q) else none
  | _, _ => none
def dctEq (S : Sto) : Dv → Dv → Option Bool
  | .ref m, .ref n => match S[m]?, S[n]? with
    | some (.dct ks), some (.dct ls) => if dctSame ks ls = true then some true else none
    | _, _ => none
  | _, _ => none
/-- == -/
def eqop (x y : Dv) (S : Sto) : Option Bool := match feq x y with
  | some b => some b
  | none => match dctEq S x y with
    | some b => some b
    | none => deepEq S x y
def strLt (x y : Str) : Bool := decide (x.cps.toList < y.cps.toList)
def isIn (x : Dv) : List Dv → Option Bool
  | [] => some false
  | y :: r => match feq y x, isIn x r with
    | some b, some c => some (b || c)
    | _, _ => none
def flatD : Dv → Bool
  | .non => true
  | .bl _ => true
  | .int _ => true
  | .str _ => true
  | _ => false
def inop (x y : Dv) (S : Sto) (neg : Bool) : Res Dv :=
  match seqv S y with
  | some xs => if flatD x = true then match isIn x xs with
      | some b => .ok (.bl (if neg then !b else b)) S
      | none => .no
    else .no
  | none => .no
def cmpop : CmpOp → Dv → Dv → Sto → Res Dv
  | .Eq, x, y, S => match eqop x y S with
    | some b => .ok (.bl b) S
    | none => .no
  | .NotEq, x, y, S => match eqop x y S with
    | some b => .ok (.bl (!b)) S
    | none => .no
  | .Lt, .int i, .int j, S => .ok (.bl (decide (i < j))) S
  | .LtE, .int i, .int j, S => .ok (.bl (decide (i ≤ j))) S
  | .Gt, .int i, .int j, S => .ok (.bl (decide (j < i))) S
  | .GtE, .int i, .int j, S => .ok (.bl (decide (j ≤ i))) S
  | .Is, x, .non, S => .ok (.bl (match x with | .non => true | _ => false)) S
  | .IsNot, x, .non, S => .ok (.bl (match x with | .non => false | _ => true)) S
  | .In, x, y, S => inop x y S false
  | .NotIn, x, y, S => inop x y S true
  | _, _, _, _ => .no
def truth (S : Sto) : Dv → Option Bool
  | .non => some false
  | .bl b => some b
  | .int i => some (i != 0)
  | .str x => if x.length ≤ LIM then some ((x.length : Int) != 0) else none
  | .tup xs => some (!xs.isEmpty)
  | .rol xs => some (!xs.isEmpty)
  | .ref n => match S[n]? with
    | some (.lst xs) => some (!xs.isEmpty)
    | some (.dct kvs) => some (!kvs.isEmpty)
    | _ => none
  | .ty _ => none
/-- the name of the type -/
def tyn (S : Sto) : Dv → Option String
  | .non => some "NoneType"
  | .bl _ => some "bool"
  | .int _ => some "int"
  | .str _ => some "str"
  | .tup _ => some "tuple"
  | .rol _ => some "list"
  | .ref n => match S[n]? with
    | some (.lst _) => some "list"
    | some (.dct _) => some "dict"
    | _ => none
  | .ty _ => none
def asInts : List Dv → Option (List Int)
  | [] => some []
  | .int i :: r => (asInts r).map (i :: ·)
  | _ => none
def asStrs : List Dv → Option (List Str)
  | [] => some []
  | .str i :: r => (asStrs r).map (i :: ·)
  | _ => none
def sortI (ns : List Int) : List Int := ns.mergeSort (fun a b => decide (a ≤ b))
def sortS (ns : List Str) : List Str := ns.mergeSort (fun a b => !(strLt b a))
def sorted (xs : List Dv) (S : Sto) : Res Dv :=
  match asInts xs with
  | some ns => new (.lst ((sortI ns).map .int)) S
  | none => match asStrs xs with
    | some ss => if ss.length < 64 then new (.lst ((sortS ss).map .str)) S else .no
    | none => .no
def bltop : Blt → List Dv → Sto → Res Dv
  | .abs, [.int i], S => .ok (.int (if i < 0 then -i else i)) S
  | .len, [.str x], S => if x.length ≤ LIM then .ok (.int x.length) S else .no
  | .len, [.tup xs], S => .ok (.int xs.length) S
  | .len, [.rol xs], S => .ok (.int xs.length) S
  | .len, [.ref n], S => match S[n]? with
    | some (.lst xs) => .ok (.int xs.length) S
    | some (.dct kvs) => .ok (.int kvs.length) S
    | _ => .no
  | .int, [.int i], S => .ok (.int i) S
  | .int, [.bl b], S => .ok (.int (if b then 1 else 0)) S
  | .bool, [.int i], S => .ok (.bl (i != 0)) S
  | .bool, [.bl b], S => .ok (.bl b) S
  | .str, [.int i], S => if i.natAbs.log2 < 1920 then .ok (.str (toString i)) S else .no
  | .str, [.str x], S => .ok (.str x) S
  | .sorted, [d], S => match seqv S d with
    | some xs => match d with
      | .ref _ => sorted xs S
      | .rol _ => sorted xs S
      | _ => .no
    | none => .no
  | .tuple, [d], S => match seqv S d with
    | some xs => .ok (.tup xs) S
    | none => .no
  | .list, [d], S => match seqv S d with
    | some xs => new (.lst xs) S
    | none => .no
  | .dict, [.ref n], S => match S[n]? with
    | some (.dct kvs) => new (.dct kvs) S
    | _ => .no
  | .isinstance, [d, .ty n], S => match tyn S d with
    | some t => match L2.kitB t n with
      | some b => .ok (.bl b) S
      | none => .no
    | none => .no
  | _, _, _ => .no
def joined (sep : Str) : List Str → Str
  | xs => PySem.Txt.join sep xs
/-- the receiver is of the method's type -/
def mty : Mth → Dv → Sto → Bool
  | .append, .ref n, S => match S[n]? with
    | some (.lst _) => true
    | _ => false
  | .join, .str _, _ => true
  | .update, .ref n, S => match S[n]? with
    | some (.dct _) => true
    | _ => false
  | _, _, _ => false
def mthop : Mth → Dv → List Dv → Sto → Res Dv
  | .append, .ref n, [x], S => match S[n]? with
    | some (.lst xs) => if xs.length < LIM then .ok .non (S.set n (.lst (xs ++ [x]))) else .no
    | _ => .no
  | .join, .str sep, [d], S => match seqv S d with
    | some xs => match asStrs xs with
      | some ss => if (ss.map (·.length)).sum + ss.length * sep.length ≤ LIM then .ok (.str (PySem.Txt.join sep ss)) S else .no
      | none => .no
    | none => .no
  | .update, .ref n, [.ref m], S => match S[n]?, S[m]? with
    | some (.dct kvs), some (.dct more) => if n ≠ m ∧ kvs.length + more.length ≤ LIM then .ok .non (S.set n (.dct (mergeD kvs more))) else .no
    | _, _ => .no
  | _, _, _, _ => .no
def ixop (x y : Dv) (S : Sto) : Res Dv :=
  match x with
  | .str z => match y with
    | .int i => if z.length ≤ LIM then match L2.atI z.cps.toList i with
        | some c => .ok (.str ⟨#[c]⟩) S
        | none => .no
      else .no
    | _ => .no
  | .ref n => match S[n]? with
    | some (.dct kvs) => match keyv y with
      | some k => match getD kvs k with
        | some v => .ok v S
        | none => .no
      | none => .no
    | some (.fd kvs) => match keyv y with
      | some k => match getD kvs k with
        | some v => .ok v S
        | none => .no
      | none => .no
    | some (.lst xs) => match y with
      | .int i => match L2.atI xs i with
        | some v => .ok v S
        | none => .no
      | _ => .no
    | none => .no
  | .tup xs => match y with
    | .int i => match L2.atI xs i with
      | some v => .ok v S
      | none => .no
    | _ => .no
  | .rol xs => match y with
    | .int i => match L2.atI xs i with
      | some v => .ok v S
      | none => .no
    | _ => .no
  | _ => .no
/-- x[y] = v -/
def setop (x y v : Dv) (S : Sto) : Res Unit :=
  match x with
  | .ref n => match S[n]? with
    | some (.lst xs) => match y with
      | .int i => match L2.ixN xs.length i with
        | some j => .ok () (S.set n (.lst (xs.set j v)))
        | none => .no
      | _ => .no
    | some (.dct kvs) => match keyv y with
      | some k => if kvs.length < LIM then .ok () (S.set n (.dct (putD kvs k v))) else .no
      | none => .no
    | _ => .no
  | _ => .no
def cutD (xs : List Dv) (lo hi : Option Int) : List Dv := (xs.drop (HT.sIx xs.length 0 lo)).take (HT.sIx xs.length xs.length hi - HT.sIx xs.length 0 lo)
def slop (x : Dv) (lo hi : Option Int) (S : Sto) : Res Dv :=
  match x with
  | .tup xs => .ok (.tup (cutD xs lo hi)) S
  | .rol xs => new (.lst (cutD xs lo hi)) S
  | .ref n => match S[n]? with
    | some (.lst xs) => new (.lst (cutD xs lo hi)) S
    | _ => .no
  | _ => .no
def augop : Operator → Dv → Dv → Sto → Res Dv
  | .Add, .int i, .int j, S => .ok (.int (i + j)) S
  | .Sub, .int i, .int j, S => .ok (.int (i - j)) S
  | _, _, _, _ => .no

/-- what a loop walks: the items, and the cell that must stay as it is meanwhile -/
structure Wk where
  items : List Dv
  src : Option (Nat × Cel)
  /-- a dict that is locked meanwhile -/
  lock : Option (Nat × List (Key × Dv))
def Wk.live (w : Wk) (S : Sto) : Prop :=
  match w.src with
  | none => True
  | some (n, c) => S[n]? = some c
def Wk.lockS (w : Wk) (S : Sto) : Sto :=
  match w.lock with
  | none => S
  | some (n, kvs) => S.set n (.fd kvs)
def Wk.freeS (w : Wk) (S : Sto) : Sto :=
  match w.lock with
  | none => S
  | some (n, kvs) => S.set n (.dct kvs)
def rangeL (lo : Int) (n : Nat) : List Dv := (List.range n).map fun (i : Nat) => Dv.int (lo + (i : Int))
def rngop (vs : List Dv) (S : Sto) : Res Wk :=
  match vs with
  | [.int j] => if -(2 ^ 62) ≤ j ∧ j < 2 ^ 62 then .ok ⟨rangeL 0 j.toNat, none, none⟩ S else .no
  | [.int i, .int j] => if -(2 ^ 62) ≤ i ∧ i < 2 ^ 62 ∧ -(2 ^ 62) ≤ j ∧ j < 2 ^ 62 then .ok ⟨rangeL i (j - i).toNat, none, none⟩ S else .no
  | _ => .no
def walkop (d : Dv) (S : Sto) : Res Wk :=
  match d with
  | .tup xs => .ok ⟨xs, none, none⟩ S
  | .rol xs => .ok ⟨xs, none, none⟩ S
  | .str x => .ok ⟨x.cps.toList.map fun c => .str ⟨#[c]⟩, none, none⟩ S
  | .ref n => match S[n]? with
    | some (.lst xs) => .ok ⟨xs, some (n, .lst xs), none⟩ S
    | _ => .no
  | _ => .no
def kD : Key → Dv
  | .inl i => .int i
  | .inr x => .str x
def itemsop (d : Dv) (S : Sto) : Res Wk :=
  match d with
  | .ref n => match S[n]? with
    | some (.dct kvs) => .ok ⟨kvs.map fun kv => .tup [kD kv.1, kv.2], some (n, .fd kvs), some (n, kvs)⟩ S
    | _ => .no
  | _ => .no

/-- the outcome of statements -/
inductive Out where
  | nx (ρ : Envr) (S : Sto)
  | rt (d : Dv) (S : Sto)
  | bk (ρ : Envr) (S : Sto)
  | ct (ρ : Envr) (S : Sto)
  | rs (x : Exn) (ρ : Envr) (S : Sto)
  | no
def Wk.locked (w : Wk) (S : Sto) : Prop :=
  match w.lock with
  | none => True
  | some (n, kvs) => S[n]? = some (.fd kvs)
open Classical in
/-- the loop is left: what it walked is free again -/
noncomputable def Out.free (w : Wk) : Out → Out
  | .nx ρ S => if w.locked S then .nx ρ (w.freeS S) else .no
  | .rt d S => if w.locked S then .rt d (w.freeS S) else .no
  | .bk ρ S => if w.locked S then .bk ρ (w.freeS S) else .no
  | .ct ρ S => if w.locked S then .ct ρ (w.freeS S) else .no
  | .rs x ρ S => .rs x ρ S
  | .no => .no
/-- no exception comes out -/
def Res.calm {α : Type} : Res α → Res α
  | .rs _ _ => .no
  | r => r
@[simp] theorem Res.calm_ok {α : Type} (a : α) (S : Sto) : (Res.ok a S).calm = .ok a S := rfl
theorem Res.sat_calm {α : Type} {A : α → Sto → Prop} {B B' : Exn → Sto → Prop} {r : Res α} (h : r.calm.sat A B) : r.sat A B' := by
  cases r with
  | ok a S => exact h
  | rs x S => exact h.elim
  | no => exact h
def Res.out {α : Type} (r : Res α) (ρ : Envr) (k : α → Sto → Out) : Out :=
  match r with
  | .ok a S => k a S
  | .rs x S => .rs x ρ S
  | .no => .no
@[simp] theorem Res.out_ok {α : Type} (a : α) (S : Sto) (ρ : Envr) (k : α → Sto → Out) : (Res.ok a S).out ρ k = k a S := rfl
@[simp] theorem Res.out_rs {α : Type} (x : Exn) (S : Sto) (ρ : Envr) (k : α → Sto → Out) : (Res.rs x S).out ρ k = .rs x ρ S := rfl
@[simp] theorem Res.out_no {α : Type} (ρ : Envr) (k : α → Sto → Out) : (Res.no : Res α).out ρ k = .no := rfl

open Classical in
/-- the loop of a list comprehension -/
noncomputable def lcL (w : Wk) (turn : Dv → Sto → Res (Option Dv)) : List Dv → List Dv → Sto → Res (List Dv)
  | [], acc, S => if w.live S then .ok acc S else .no
  | x :: r, acc, S => if w.live S ∧ acc.length < LIM then (turn x S).bind fun o S1 => match o with
      | some y => lcL w turn r (acc ++ [y]) S1
      | none => lcL w turn r acc S1
    else .no
open Classical in
/-- a for loop -/
noncomputable def forL (w : Wk) (turn : Envr → Dv → Sto → Out) : List Dv → Envr → Sto → Out
  | [], ρ, S => if w.live S then .nx ρ S else .no
  | x :: r, ρ, S => if w.live S then match turn ρ x S with
      | .nx ρ' S' => forL w turn r ρ' S'
      | .ct ρ' S' => forL w turn r ρ' S'
      | .bk ρ' S' => .nx ρ' S'
      | .rt d S' => .rt d S'
      | .rs e ρ' S' => .rs e ρ' S'
      | .no => .no
    else .no
def whL (test : Envr → Sto → Res Bool) (body : Envr → Sto → Out) : Nat → Envr → Sto → Out
  | 0, _, _ => .no
  | n + 1, ρ, S => (test ρ S).out ρ fun b S1 => if b = true then match body ρ S1 with
      | .nx ρ' S' => whL test body n ρ' S'
      | .ct ρ' S' => whL test body n ρ' S'
      | .bk ρ' S' => .nx ρ' S'
      | .rt d S' => .rt d S'
      | .rs e ρ' S' => .rs e ρ' S'
      | .no => .no
    else .nx ρ S1
def wipe (ρ : Envr) : List Nat → Envr
  | [] => ρ
  | v :: vs => (wipe ρ vs).set v none
/-! ### the semantics: what is called, what the module's constants hold -/
section
variable (cl : Nat → List Dv → Sto → Res Dv) (gv : Str → Option Dv)
mutual
noncomputable def ev : Ec → Envr → Sto → Res Dv
  | .cst d, _, S => .ok d S
  | .var i, ρ, S => match ρ[i]? with
    | some (some d) => .ok d S
    | _ => .no
  | .bty x, _, S => .ok (.ty x) S
  | .gl x, _, S => match gv x with
    | some d => .ok d S
    | none => .no
  | .bin o a b, ρ, S => (ev a ρ S).bind fun x S1 => (ev b ρ S1).bind fun y S2 => binop o x y S2
  | .neg a, ρ, S => (ev a ρ S).bind fun x S1 => match x with
    | .int i => .ok (.int (-i)) S1
    | _ => .no
  | .cmp o a b, ρ, S => (ev a ρ S).bind fun x S1 => (ev b ρ S1).bind fun y S2 => cmpop o x y S2
  | .chn o o' a b c, ρ, S => (ev a ρ S).bind fun x S1 => (ev b ρ S1).bind fun y S2 => (cmpop o x y S2).bind fun z S3 => match z with
    | .bl true => (ev c ρ S3).bind fun u S4 => cmpop o' y u S4
    | .bl false => .ok (.bl false) S3
    | _ => .no
  | .bo o es, ρ, S => evb o es ρ S
  | .nt a, ρ, S => (ev a ρ S).bind fun x S1 => match x with
    | .bl b => .ok (.bl (!b)) S1
    | _ => .no
  | .tup es, ρ, S => (evs es ρ S).bind fun xs S1 => if xs.length ≤ LIM then .ok (.tup xs) S1 else .no
  | .lst es, ρ, S => (evs es ρ S).bind fun xs S1 => if xs.length ≤ LIM then new (.lst xs) S1 else .no
  | .dct ps, ρ, S => (evp ps ρ S).bind fun kvs S1 => if kvs.length ≤ 15 then new (.dct (mergeD [] kvs)) S1 else .no
  | .call f es, ρ, S => (evs es ρ S).bind fun xs S1 => cl f xs S1
  | .blt b es, ρ, S => (evs es ρ S).bind fun xs S1 => bltop b xs S1
  | .mth m a es, ρ, S => (ev a ρ S).bind fun x S1 => if mty m x S1 = true then (evs es ρ S1).bind fun xs S2 => mthop m x xs S2 else .no
  | .ix a b, ρ, S => (ev a ρ S).bind fun x S1 => (ev b ρ S1).bind fun y S2 => ixop x y S2
  | .sl a lo hi, ρ, S => (ev a ρ S).bind fun x S1 => (evpo lo ρ S1).bind fun l S2 => (evpo hi ρ S2).bind fun h S3 => slop x l h S3
  | .lc own g it ifs e, ρ, S => (evi it ρ S).bind fun w S1 =>
      (lcL w (fun x S2 => (asn g x (wipe ρ (own.map (·.2))) S2).bind fun ρ' S3 => (evo ifs ρ' S3).bind fun b S4 =>
        if b = true then (ev e ρ' S4).bind fun y S5 => .ok (some y) S5 else .ok none S4) w.items [] (w.lockS S1)).calm.bind fun acc S6 => new (.lst acc) (w.freeS S6)
noncomputable def evs : Es → Envr → Sto → Res (List Dv)
  | .nil, _, S => .ok [] S
  | .cons e r, ρ, S => (ev e ρ S).bind fun x S1 => (evs r ρ S1).bind fun xs S2 => .ok (x :: xs) S2
/-- a dict's display: keys and values in turns -/
noncomputable def evp : Ps → Envr → Sto → Res (List (Key × Dv))
  | .nil, _, S => .ok [] S
  | .cons k v r, ρ, S => (ev k ρ S).bind fun x S1 => (ev v ρ S1).bind fun y S2 => (evp r ρ S2).bind fun ps S3 => match keyv x with
    | some q => .ok ((q, y) :: ps) S3
    | none => .no
noncomputable def evb (o : BoolOp) : Es → Envr → Sto → Res Dv
  | .nil, _, _ => .no
  | .cons e .nil, ρ, S => ev e ρ S
  | .cons e r, ρ, S => (ev e ρ S).bind fun x S1 => match x with
    | .bl b => match o with
      | .And => if b = true then evb o r ρ S1 else .ok (.bl false) S1
      | .Or => if b = true then .ok (.bl true) S1 else evb o r ρ S1
    | _ => .no
noncomputable def evpo : Po → Envr → Sto → Res (Option Int)
  | .none, _, S => .ok none S
  | .one e, ρ, S => (ev e ρ S).bind fun x S1 => match x with
    | .int i => .ok (some i) S1
    | _ => .no
noncomputable def evo : Oc → Envr → Sto → Res Bool
  | .none, _, S => .ok true S
  | .one t, ρ, S => tst t ρ S
noncomputable def tst : Tc → Envr → Sto → Res Bool
  | .cmp o a b, ρ, S => (ev a ρ S).bind fun x S1 => (ev b ρ S1).bind fun y S2 => (cmpop o x y S2).bind fun z S3 => match z with
    | .bl k => .ok k S3
    | _ => .no
  | .chn o o' a b c, ρ, S => (ev a ρ S).bind fun x S1 => (ev b ρ S1).bind fun y S2 => (cmpop o x y S2).bind fun z S3 => match z with
    | .bl true => (ev c ρ S3).bind fun u S4 => (cmpop o' y u S4).bind fun z' S5 => match z' with
      | .bl k => .ok k S5
      | _ => .no
    | .bl false => .ok false S3
    | _ => .no
  | .bo o ts, ρ, S => tsb o ts ρ S
  | .nt t, ρ, S => (tst t ρ S).bind fun b S1 => .ok (!b) S1
  | .tr e, ρ, S => (ev e ρ S).bind fun x S1 => match truth S1 x with
    | some b => .ok b S1
    | none => .no
noncomputable def tsb (o : BoolOp) : Ts → Envr → Sto → Res Bool
  | .nil, _, _ => .no
  | .cons t .nil, ρ, S => tst t ρ S
  | .cons t r, ρ, S => (tst t ρ S).bind fun b S1 => match o with
    | .And => if b = true then tsb o r ρ S1 else .ok false S1
    | .Or => if b = true then .ok true S1 else tsb o r ρ S1
noncomputable def asn : Gc → Dv → Envr → Sto → Res Envr
  | .nm i, d, ρ, S => .ok (ρ.set i (some d)) S
  | .tup gs, d, ρ, S => match d with
    | .tup xs => if xs.length = gs.len then asns gs xs ρ S else .no
    | _ => .no
  | .ix a b, d, ρ, S => (ev a ρ S).bind fun x S1 => (ev b ρ S1).bind fun y S2 => (setop x y d S2).bind fun _ S3 => .ok ρ S3
noncomputable def asns : Gs → List Dv → Envr → Sto → Res Envr
  | .nil, [], ρ, S => .ok ρ S
  | .cons g r, x :: xs, ρ, S => (asn g x ρ S).bind fun ρ1 S1 => (asns r xs ρ1 S1).calm
  | _, _, _, _ => .no
noncomputable def evi : Ic → Envr → Sto → Res Wk
  | .e e, ρ, S => (ev e ρ S).bind fun x S1 => walkop x S1
  | .rng es, ρ, S => (evs es ρ S).bind fun xs S1 => rngop xs S1
  | .items e, ρ, S => (ev e ρ S).bind fun x S1 => itemsop x S1
end
mutual
noncomputable def exS : Sc → Envr → Sto → Out
  | .asg g e, ρ, S => (ev cl gv e ρ S).out ρ fun x S1 => (asn cl gv g x ρ S1).out ρ fun ρ' S2 => .nx ρ' S2
  | .aug i o e, ρ, S => match ρ[i]? with
    | some (some x) => (ev cl gv e ρ S).out ρ fun y S1 => (augop o x y S1).out ρ fun z S2 => .nx (ρ.set i (some z)) S2
    | _ => .no
  | .ex e, ρ, S => (ev cl gv e ρ S).out ρ fun _ S1 => .nx ρ S1
  | .ret e, ρ, S => (ev cl gv e ρ S).out ρ fun x S1 => .rt x S1
  | .retn, _, S => .rt .non S
  | .ite t a b, ρ, S => (tst cl gv t ρ S).out ρ fun k S1 => if k = true then exB a ρ S1 else exB b ρ S1
  | .fr g it b, ρ, S => (evi cl gv it ρ S).out ρ fun w S1 => (forL w (fun ρ1 x S2 => (asn cl gv g x ρ1 S2).out ρ1 fun ρ2 S3 => exB b ρ2 S3) w.items ρ (w.lockS S1)).free w
  | .wh n t b, ρ, S => whL (tst cl gv t) (exB b) n ρ S
  | .pass, ρ, S => .nx ρ S
  | .brk, ρ, S => .bk ρ S
  | .cont, ρ, S => .ct ρ S
noncomputable def exB : Bc → Envr → Sto → Out
  | .nil, ρ, S => .nx ρ S
  | .cons s r, ρ, S => match exS s ρ S with
    | .nx ρ' S' => exB r ρ' S'
    | o => o
end
end

/-- a def: its parameters' number, its slots' number, its body -/
structure Fn where
  np : Nat
  ns : Nat
  body : Bc
def Out.res : Out → Res Dv
  | .nx _ S => .ok .non S
  | .rt d S => .ok d S
  | .rs x _ S => .rs x S
  | _ => .no
def start (ns : Nat) (ds : List Dv) : Envr := ds.map some ++ List.replicate (ns - ds.length) none
/-- the defs of a program, to a depth of calls -/
noncomputable def run (tb : List Fn) (gv : Str → Option Dv) : Nat → Nat → List Dv → Sto → Res Dv
  | 0, _, _, _ => .no
  | n + 1, f, ds, S => match tb[f]? with
    | some fn => if ds.length = fn.np then (exB (run tb gv n) gv fn.body (start fn.ns ds) S).res else .no
    | none => .no
abbrev Cst := List (Str × Dv)
def gvOf (cs : Cst) (x : Str) : Option Dv := (cs.find? fun p => decide (p.1 = x)).map (·.2)
end Vm

set_option Elab.async false
set_option linter.all false
set_option maxRecDepth 100000
set_option maxHeartbeats 4000000
/-! VmB: the store against the abstract heap. -/
namespace Vm
open PySem L2

/-- a sequence of the module's own -/
def KSeq (K : PySem.W.Frag) (T : String) (a : Addr) (xs : List V) : Prop :=
  ∃ (o : Obj) (its : Array Value) (n : Nat), K.lookup a = some o ∧ o.cls = .type T ∧ o.dict = none ∧ o.data = .seq its n ∧ its.size ≤ sizeLine ∧ Vals xs its.toList
def IsT (K : PySem.W.Frag) (H : Hp) (a : Addr) (xs : List V) : Prop := H a = some (.tup xs) ∨ KSeq K "tuple" a xs
/-- a list that is read only -/
def IsR (K : PySem.W.Frag) (H : Hp) (a : Addr) (xs : List V) : Prop := (∃ o, H a = some (.frz o (.lst xs))) ∨ KSeq K "list" a xs
theorem IsR.sq {K : PySem.W.Frag} {H : Hp} {a : Addr} {xs : List V} (h : IsR K H a xs) : SqL K H a xs := by
  rcases h with ⟨o, h⟩ | ⟨o, its, n, h1, h2, h3, h4, h5, h6⟩
  · exact .inl (.inr ⟨o, h⟩)
  · exact .inr ⟨o, its, n, h1, h2, h3, h4, h5, h6⟩
theorem IsT.sq {K : PySem.W.Frag} {H : Hp} {a : Addr} {xs : List V} (h : IsT K H a xs) : SqT K H a xs := by
  rcases h with h | ⟨o, its, n, h1, h2, h3, h4, h5, h6⟩
  · exact SqT.of h
  · exact .inr ⟨o, its, n, h1, h2, h4, h5, h6⟩

mutual
inductive Rl (K : PySem.W.Frag) (H : Hp) (ι : List Addr) : Dv → V → Prop
  | non : Rl K H ι .non .non
  | bl (b : Bool) : Rl K H ι (.bl b) (.bl b)
  | int (i : Int) : Rl K H ι (.int i) (.int i)
  | str (x : Str) : Rl K H ι (.str x) (.str x)
  | ty (n : String) : Rl K H ι (.ty n) (.ty n)
  | ref {n : Nat} {a : Addr} : ι[n]? = some a → Rl K H ι (.ref n) (.ref a)
  | tup {a : Addr} {ds : List Dv} {vs : List V} : IsT K H a vs → Rls K H ι ds vs → Rl K H ι (.tup ds) (.ref a)
  | rol {a : Addr} {ds : List Dv} {vs : List V} : IsR K H a vs → Rls K H ι ds vs → Rl K H ι (.rol ds) (.ref a)
inductive Rls (K : PySem.W.Frag) (H : Hp) (ι : List Addr) : List Dv → List V → Prop
  | nil : Rls K H ι [] []
  | cons {d : Dv} {ds : List Dv} {v : V} {vs : List V} : Rl K H ι d v → Rls K H ι ds vs → Rls K H ι (d :: ds) (v :: vs)
end

/-- what the relations lean on -/
structure Mn (H H' : Hp) (ι ι' : List Addr) : Prop where
  ext : ∃ l, ι' = ι ++ l
  tup : ∀ a xs, H a = some (.tup xs) → H' a = some (.tup xs)
  rol : ∀ a o xs, H a = some (.frz o (.lst xs)) → H' a = some (.frz o (.lst xs))
/-- from one state to a later one -/
structure Nx (K : PySem.W.Frag) (H H' : Hp) (ι ι' : List Addr) : Prop where
  ext : ∃ l, ι' = ι ++ l
  tup : ∀ a xs, H a = some (.tup xs) → H' a = some (.tup xs)
  fr : ∀ a o, H a = some o → a ∉ ι → H' a = some o ∧ a ∉ ι'
  frz : ∀ a o u, H a = some (.frz o u) → H' a = some (.frz o u)

section
variable {K : PySem.W.Frag} {H H' H1 H2 : Hp} {ι ι' ι1 ι2 : List Addr}
theorem Nx.refl (K : PySem.W.Frag) (H : Hp) (ι : List Addr) : Nx K H H ι ι := ⟨⟨[], by simp⟩, fun _ _ h => h, fun _ _ h n => ⟨h, n⟩, fun _ _ _ h => h⟩
theorem Nx.trans (a : Nx K H H1 ι ι1) (b : Nx K H1 H2 ι1 ι2) : Nx K H H2 ι ι2 := by
  obtain ⟨l, e⟩ := a.ext
  obtain ⟨l', e'⟩ := b.ext
  refine ⟨⟨l ++ l', by rw [e', e, List.append_assoc]⟩, fun x xs h => b.tup x xs (a.tup x xs h), fun x o h n => ?_, fun x o u h => b.frz x o u (a.frz x o u h)⟩
  obtain ⟨h1, n1⟩ := a.fr x o h n
  exact b.fr x o h1 n1
theorem Nx.mn (n : Nx K H H' ι ι') : Mn H H' ι ι' := ⟨n.ext, n.tup, fun a o xs h => n.frz a o _ h⟩
theorem Mn.ix {n : Nat} {a : Addr} (x : Mn H H' ι ι') (h : ι[n]? = some a) : ι'[n]? = some a := by
  obtain ⟨l, e⟩ := x.ext
  rw [e, List.getElem?_append_left (List.getElem?_eq_some_iff.mp h).1]
  exact h
theorem Nx.ix {n : Nat} {a : Addr} (x : Nx K H H' ι ι') (h : ι[n]? = some a) : ι'[n]? = some a := x.mn.ix h
theorem IsT.mn {a : Addr} {xs : List V} (n : Mn H H' ι ι') (h : IsT K H a xs) : IsT K H' a xs := by
  rcases h with h | h
  · exact .inl (n.tup a xs h)
  · exact .inr h
theorem IsR.mn {a : Addr} {xs : List V} (n : Mn H H' ι ι') (h : IsR K H a xs) : IsR K H' a xs := by
  rcases h with ⟨o, h⟩ | h
  · exact .inl ⟨o, n.rol a o xs h⟩
  · exact .inr h
mutual
theorem Rl.mn (n : Mn H H' ι ι') : ∀ {d : Dv} {v : V}, Rl K H ι d v → Rl K H' ι' d v
  | _, _, .non => .non
  | _, _, .bl b => .bl b
  | _, _, .int i => .int i
  | _, _, .str x => .str x
  | _, _, .ty x => .ty x
  | _, _, .ref h => .ref (n.ix h)
  | _, _, .tup h r => .tup (h.mn n) (Rls.mn n r)
  | _, _, .rol h r => .rol (h.mn n) (Rls.mn n r)
theorem Rls.mn (n : Mn H H' ι ι') : ∀ {ds : List Dv} {vs : List V}, Rls K H ι ds vs → Rls K H' ι' ds vs
  | _, _, .nil => .nil
  | _, _, .cons h r => .cons (Rl.mn n h) (Rls.mn n r)
end
theorem IsT.mono {a : Addr} {xs : List V} (n : Nx K H H' ι ι') (h : IsT K H a xs) : IsT K H' a xs := h.mn n.mn
theorem Rl.mono {d : Dv} {v : V} (n : Nx K H H' ι ι') (h : Rl K H ι d v) : Rl K H' ι' d v := h.mn n.mn
theorem Rls.mono {ds : List Dv} {vs : List V} (n : Nx K H H' ι ι') (h : Rls K H ι ds vs) : Rls K H' ι' ds vs := h.mn n.mn
theorem Rls.length : ∀ {ds : List Dv} {vs : List V}, Rls K H ι ds vs → ds.length = vs.length
  | _, _, .nil => rfl
  | _, _, .cons _ r => by rw [List.length_cons, List.length_cons, Rls.length r]
theorem Rls.get : ∀ {ds : List Dv} {vs : List V} {i : Nat} {d : Dv}, Rls K H ι ds vs → ds[i]? = some d → ∃ v, vs[i]? = some v ∧ Rl K H ι d v
  | _, _, _, _, .nil, h => by simp at h
  | _, _, 0, d, .cons r _, h => by simp at h; subst h; exact ⟨_, rfl, r⟩
  | _, _, i + 1, d, .cons _ t, h => by
    obtain ⟨v, h1, h2⟩ := Rls.get (i := i) t (by simpa using h)
    exact ⟨v, by simpa using h1, h2⟩
theorem Rls.get' : ∀ {ds : List Dv} {vs : List V} {i : Nat} {v : V}, Rls K H ι ds vs → vs[i]? = some v → ∃ d, ds[i]? = some d ∧ Rl K H ι d v
  | _, _, _, _, .nil, h => by simp at h
  | _, _, 0, d, .cons r _, h => by simp at h; subst h; exact ⟨_, rfl, r⟩
  | _, _, i + 1, d, .cons _ t, h => by
    obtain ⟨v, h1, h2⟩ := Rls.get' (i := i) t (by simpa using h)
    exact ⟨v, by simpa using h1, h2⟩
theorem Rls.append : ∀ {ds es : List Dv} {vs ws : List V}, Rls K H ι ds vs → Rls K H ι es ws → Rls K H ι (ds ++ es) (vs ++ ws)
  | _, _, _, _, .nil, q => q
  | _, _, _, _, .cons h r, q => .cons h (Rls.append r q)
theorem Rls.take : ∀ {ds : List Dv} {vs : List V} (n : Nat), Rls K H ι ds vs → Rls K H ι (ds.take n) (vs.take n)
  | _, _, 0, _ => .nil
  | _, _, _ + 1, .nil => .nil
  | _, _, n + 1, .cons h r => .cons h (Rls.take n r)
theorem Rls.drop : ∀ {ds : List Dv} {vs : List V} (n : Nat), Rls K H ι ds vs → Rls K H ι (ds.drop n) (vs.drop n)
  | _, _, 0, r => r
  | _, _, _ + 1, .nil => .nil
  | _, _, n + 1, .cons _ r => Rls.drop n r
theorem Rls.set : ∀ {ds : List Dv} {vs : List V} (n : Nat) {d : Dv} {v : V}, Rls K H ι ds vs → Rl K H ι d v → Rls K H ι (ds.set n d) (vs.set n v)
  | _, _, _, _, _, .nil, _ => .nil
  | _, _, 0, _, _, .cons _ t, q => .cons q t
  | _, _, n + 1, _, _, .cons h r, q => .cons h (Rls.set n r q)
theorem Rls.ints (ns : List Int) : Rls K H ι (ns.map .int) (ns.map .int) := by
  induction ns with
  | nil => exact .nil
  | cons x r ih => exact .cons (.int x) ih
theorem Rls.strs (ns : List Str) : Rls K H ι (ns.map .str) (ns.map .str) := by
  induction ns with
  | nil => exact .nil
  | cons x r ih => exact .cons (.str x) ih
theorem asInts_vals : ∀ {xs : List Dv} {ns : List Int} {vs : List V}, asInts xs = some ns → Rls K H ι xs vs → vs = ns.map .int
  | [], _, _, h, r => by
    cases r
    cases h
    rfl
  | .int i :: t, ns, _, h, .cons r1 r2 => by
    unfold asInts at h
    cases q : asInts t with
    | none => rw [q] at h; cases h
    | some l =>
      rw [q] at h
      cases h
      cases r1
      rw [asInts_vals q r2]
      rfl
  | .non :: _, _, _, h, _ => nomatch h
  | .bl _ :: _, _, _, h, _ => nomatch h
  | .str _ :: _, _, _, h, _ => nomatch h
  | .tup _ :: _, _, _, h, _ => nomatch h
  | .ref _ :: _, _, _, h, _ => nomatch h
  | .ty _ :: _, _, _, h, _ => nomatch h
  | .rol _ :: _, _, _, h, _ => nomatch h
theorem asStrs_vals : ∀ {xs : List Dv} {ns : List Str} {vs : List V}, asStrs xs = some ns → Rls K H ι xs vs → vs = ns.map .str
  | [], _, _, h, r => by
    cases r
    cases h
    rfl
  | .str i :: t, ns, _, h, .cons r1 r2 => by
    unfold asStrs at h
    cases q : asStrs t with
    | none => rw [q] at h; cases h
    | some l =>
      rw [q] at h
      cases h
      cases r1
      rw [asStrs_vals q r2]
      rfl
  | .non :: _, _, _, h, _ => nomatch h
  | .bl _ :: _, _, _, h, _ => nomatch h
  | .int _ :: _, _, _, h, _ => nomatch h
  | .tup _ :: _, _, _, h, _ => nomatch h
  | .ref _ :: _, _, _, h, _ => nomatch h
  | .ty _ :: _, _, _, h, _ => nomatch h
  | .rol _ :: _, _, _, h, _ => nomatch h
end

/-- the pairs of a dict -/
abbrev RlP (K : PySem.W.Frag) (H : Hp) (ι : List Addr) : List (Key × Dv) → List (Key × V) → Prop := Paired fun p q => p.1 = q.1 ∧ Rl K H ι p.2 q.2
def CelOk (K : PySem.W.Frag) (H : Hp) (ι : List Addr) : Cel → Addr → Prop
  | .lst xs, a => ∃ vs, H a = some (.lst vs) ∧ Rls K H ι xs vs
  | .dct kvs, a => ∃ ws, H a = some (.dK ws) ∧ RlP K H ι kvs ws
  | .fd kvs, a => ∃ ws o, H a = some (.frz o (.dK ws)) ∧ RlP K H ι kvs ws
/-- every cell stands alone at its address -/
def own : Cel → Bool
  | _ => true
/-- a cell that may be written -/
def wr : Cel → Bool
  | .lst _ => true
  | .dct _ => true
  | _ => false
theorem own_of {c : Cel} (h : wr c = true) : own c = true := by cases c <;> first | rfl | cases h
/-- the store is told by the heap -/
structure Sim (K : PySem.W.Frag) (S : Sto) (H : Hp) (ι : List Addr) : Prop where
  len : ι.length = S.length
  ok : ∀ (n : Nat) (c : Cel) (a : Addr), S[n]? = some c → ι[n]? = some a → CelOk K H ι c a
  inj : ∀ (m n : Nat) (c d : Cel) (a : Addr), S[m]? = some c → S[n]? = some d → own c = true → own d = true → ι[m]? = some a → ι[n]? = some a → m = n

section
variable {K : PySem.W.Frag} {S : Sto} {H H' : Hp} {ι ι' : List Addr} {p a : Addr} {n : Nat} {c c' : Cel} {o : HO}
theorem RlP.mono (x : Nx K H H' ι ι') {kvs : List (Key × Dv)} {ws : List (Key × V)} (h : RlP K H ι kvs ws) : RlP K H' ι' kvs ws :=
  Paired.mapP h fun _ _ q => ⟨q.1, q.2.mono x⟩
theorem Sim.at (s : Sim K S H ι) (h : S[n]? = some c) : ∃ a, ι[n]? = some a ∧ CelOk K H ι c a := by
  have h1 := (List.getElem?_eq_some_iff.mp h).1
  have h2 : n < ι.length := by rw [s.len]; exact h1
  exact ⟨ι[n], List.getElem?_eq_getElem h2, s.ok n c _ h (List.getElem?_eq_getElem h2)⟩
theorem Sim.cell (s : Sim K S H ι) (h : ι[n]? = some a) : ∃ c, S[n]? = some c ∧ CelOk K H ι c a := by
  have h1 := (List.getElem?_eq_some_iff.mp h).1
  have h2 : n < S.length := by rw [← s.len]; exact h1
  exact ⟨S[n], List.getElem?_eq_getElem h2, s.ok n _ a (List.getElem?_eq_getElem h2) h⟩
/-- what a cell leans on -/
theorem CelOk.mn (x : Mn H H' ι ι') (h : CelOk K H ι c a) (hk : ∀ o, H a = some o → H' a = some o) : CelOk K H' ι' c a := by
  cases c with
  | lst xs => obtain ⟨vs, e, r⟩ := h; exact ⟨vs, hk _ e, r.mn x⟩
  | dct kvs => obtain ⟨ws, e, r⟩ := h; exact ⟨ws, hk _ e, Paired.mapP r fun _ _ q => ⟨q.1, q.2.mn x⟩⟩
  | fd kvs => obtain ⟨ws, o, e, r⟩ := h; exact ⟨ws, o, hk _ e, Paired.mapP r fun _ _ q => ⟨q.1, q.2.mn x⟩⟩
theorem CelOk.keep (x : Nx K H H' ι ι') (h : CelOk K H ι c a) (hk : ∀ o, H a = some o → H' a = some o) : CelOk K H' ι' c a := h.mn x.mn hk
/-- a cell of one's own is tracked -/
theorem CelOk.there (h : CelOk K H ι c a) (w : own c = true) : ∃ o, H a = some o ∧ (∀ xs, o ≠ .tup xs) ∧ ∀ ob xs, o ≠ .frz ob (.lst xs) := by
  cases c with
  | lst xs => obtain ⟨vs, e, r⟩ := h; exact ⟨_, e, (fun _ z => nomatch z), (fun _ _ z => nomatch z)⟩
  | dct kvs => obtain ⟨ws, e, r⟩ := h; exact ⟨_, e, (fun _ z => nomatch z), (fun _ _ z => nomatch z)⟩
  | fd kvs => obtain ⟨ws, o, e, r⟩ := h; exact ⟨_, e, (fun _ z => nomatch z), (fun _ _ z => nomatch z)⟩
theorem Sim.notin (s : Sim K S H ι) {p : Addr} (hp : H p = none) : p ∉ ι := fun m => by
  obtain ⟨n, hn⟩ := List.mem_iff_getElem?.mp m
  obtain ⟨c, hc, ok⟩ := s.cell hn
  obtain ⟨u, hu, _⟩ := ok.there rfl
  rw [hp] at hu
  cases hu
theorem CelOk.nofrz (h : CelOk K H ι c a) (w : wr c = true) : ∀ o u, H a ≠ some (.frz o u) := by
  cases c with
  | lst xs => obtain ⟨vs, e, r⟩ := h; intro o u z; rw [e] at z; cases z
  | dct kvs => obtain ⟨ws, e, r⟩ := h; intro o u z; rw [e] at z; cases z
  | fd kvs => cases w
/-- a new object that is no cell: a tuple -/
theorem Nx.newTup (hp : H p = none) (xs : List V) : Nx K H (upd H p (.tup xs)) ι ι :=
  ⟨⟨[], by simp⟩, fun b ys h => by rw [upd_ne (ne_of_none h hp)]; exact h, fun b u h nb => ⟨by rw [upd_ne (ne_of_none h hp)]; exact h, nb⟩, fun b o u h => by rw [upd_ne (ne_of_none h hp)]; exact h⟩
theorem Sim.kept (s : Sim K S H ι) (x : Nx K H H' ι ι) (hk : ∀ b u, H b = some u → H' b = some u) : Sim K S H' ι :=
  ⟨s.len, fun n c b h1 h2 => (s.ok n c b h1 h2).keep x (hk b), s.inj⟩
theorem keep_new (hp : H p = none) (o : HO) : ∀ b u, H b = some u → upd H p o b = some u := fun b u h => by rw [upd_ne (ne_of_none h hp)]; exact h
theorem Sim.newTup (s : Sim K S H ι) (hp : H p = none) (xs : List V) : Sim K S (upd H p (.tup xs)) ι := s.kept (Nx.newTup hp xs) (keep_new hp _)

/-- a new cell -/
theorem Nx.newCell (hp : H p = none) (o : HO) : Nx K H (upd H p o) ι (ι ++ [p]) :=
  ⟨⟨[p], rfl⟩, fun b ys h => keep_new hp o b _ h, fun b u h nb => ⟨keep_new hp o b u h, fun m => by
    rcases List.mem_append.mp m with m | m
    · exact nb m
    · have e : b = p := by simpa using m
      exact ne_of_none h hp e⟩, fun b ob u h => keep_new hp o b _ h⟩
theorem getElem?_snoc {α : Type} {l : List α} {x y : α} {n : Nat} (h : (l ++ [x])[n]? = some y) : l[n]? = some y ∨ (n = l.length ∧ y = x) := by
  by_cases hn : n < l.length
  · rw [List.getElem?_append_left hn] at h; exact .inl h
  · rw [List.getElem?_append_right (by omega)] at h
    have : n - l.length = 0 := by
      by_cases z : n - l.length = 0
      · exact z
      · rw [List.getElem?_eq_none (by simp; omega)] at h; cases h
    rw [this] at h
    simp at h
    exact .inr ⟨by omega, h.symm⟩
theorem Sim.newCell (s : Sim K S H ι) (hp : H p = none) (hc : CelOk K (upd H p o) (ι ++ [p]) c p) : Sim K (S ++ [c]) (upd H p o) (ι ++ [p]) := by
  have np : ∀ (n : Nat) (d : Cel), S[n]? = some d → own d = true → ι[n]? ≠ some p := fun n d h w e => by
    obtain ⟨u, hu, _⟩ := (s.ok n d p h e).there w
    rw [hp] at hu; cases hu
  have nx : Nx K H (upd H p o) ι (ι ++ [p]) := Nx.newCell hp o
  refine ⟨by simp [s.len], fun n d b h1 h2 => ?_, fun m n d e b h1 h2 w1 w2 h3 h4 => ?_⟩
  · rcases getElem?_snoc h1 with h1 | ⟨e1, e2⟩
    · have hn : n < ι.length := by rw [s.len]; exact (List.getElem?_eq_some_iff.mp h1).1
      rw [List.getElem?_append_left hn] at h2
      exact (s.ok n d b h1 h2).keep nx (keep_new hp o b)
    · subst e2
      rw [e1, ← s.len, List.getElem?_append_right (Nat.le_refl _), Nat.sub_self] at h2
      have : b = p := by simpa using h2.symm
      subst this
      exact hc
  · rcases getElem?_snoc h3 with h3 | ⟨e3, e3'⟩
    · rcases getElem?_snoc h4 with h4 | ⟨e4, e4'⟩
      · have l1 : m < S.length := by rw [← s.len]; exact (List.getElem?_eq_some_iff.mp h3).1
        have l2 : n < S.length := by rw [← s.len]; exact (List.getElem?_eq_some_iff.mp h4).1
        rw [List.getElem?_append_left l1] at h1
        rw [List.getElem?_append_left l2] at h2
        exact s.inj m n d e b h1 h2 w1 w2 h3 h4
      · have l1 : m < S.length := by rw [← s.len]; exact (List.getElem?_eq_some_iff.mp h3).1
        rw [List.getElem?_append_left l1] at h1
        rw [e4'] at h3
        exact absurd h3 (np m d h1 w1)
    · rcases getElem?_snoc h4 with h4 | ⟨e4, e4'⟩
      · have l2 : n < S.length := by rw [← s.len]; exact (List.getElem?_eq_some_iff.mp h4).1
        rw [List.getElem?_append_left l2] at h2
        rw [e3'] at h4
        exact absurd h4 (np n e h2 w2)
      · rw [e3, e4]

/-- a cell is changed in the heap: what stays -/
theorem Nx.write (s : Sim K S H ι) (h : S[n]? = some c) (w : wr c = true) (ha : ι[n]? = some a) (o : HO) : Nx K H (upd H a o) ι ι := by
  have ok := s.ok n c a h ha
  obtain ⟨u, hu, nt, _⟩ := ok.there (own_of w)
  refine ⟨⟨[], by simp⟩, fun b ys q => ?_, fun b v q nb => ⟨?_, nb⟩, fun b ob v q => ?_⟩
  · rw [upd_ne (fun e => by subst e; rw [hu] at q; exact nt ys (Option.some.inj q))]
    exact q
  · rw [upd_ne (fun e => nb (by rw [e]; exact List.mem_of_getElem? ha))]
    exact q
  · rw [upd_ne (fun e => by subst e; exact ok.nofrz w ob v q)]
    exact q
/-- a cell of one's own is changed -/
theorem Sim.put (s : Sim K S H ι) (h : S[n]? = some c) (w : own c = true) (w' : own c' = true) (ha : ι[n]? = some a) (hc : CelOk K (upd H a o) ι c' a) : Sim K (S.set n c') (upd H a o) ι := by
  obtain ⟨u, hu, nt, nf⟩ := (s.ok n c a h ha).there w
  have kp : Mn H (upd H a o) ι ι := ⟨⟨[], by simp⟩, fun b ys q => by
    rw [upd_ne (fun e => by subst e; rw [hu] at q; exact nt ys (Option.some.inj q))]
    exact q, fun b ob ys q => by
    rw [upd_ne (fun e => by subst e; rw [hu] at q; exact nf ob ys (Option.some.inj q))]
    exact q⟩
  have ln := (List.getElem?_eq_some_iff.mp h).1
  refine ⟨by simp [s.len], fun m d b h1 h2 => ?_, fun m k d e b h1 h2 w1 w2 h3 h4 => ?_⟩
  · by_cases hm : n = m
    · subst hm
      rw [List.getElem?_set_self ln] at h1
      cases h1
      rw [ha] at h2
      cases h2
      exact hc
    · rw [List.getElem?_set_ne hm] at h1
      have ok := s.ok m d b h1 h2
      by_cases wd : own d = true
      · have nb : b ≠ a := fun e => hm (by rw [e] at h2; exact s.inj n m c d a h h1 w wd ha h2)
        exact ok.mn kp fun v q => by rw [upd_ne nb]; exact q
      · exact absurd rfl wd
  · have q : ∀ {i : Nat} {d : Cel}, (S.set n c')[i]? = some d → own d = true → ∃ d', S[i]? = some d' ∧ own d' = true := fun {i d} hi wi => by
      by_cases hm : n = i
      · subst hm
        exact ⟨c, h, w⟩
      · rw [List.getElem?_set_ne hm] at hi
        exact ⟨d, hi, wi⟩
    obtain ⟨d', g1, g1'⟩ := q h1 w1
    obtain ⟨e', g2, g2'⟩ := q h2 w2
    exact s.inj m k d' e' b g1 g2 g1' g2' h3 h4
theorem Sim.write (s : Sim K S H ι) (h : S[n]? = some c) (w : wr c = true) (w' : own c' = true) (ha : ι[n]? = some a) (hc : CelOk K (upd H a o) ι c' a) : Sim K (S.set n c') (upd H a o) ι := s.put h (own_of w) w' ha hc
end
end Vm

set_option Elab.async false
set_option linter.all false
set_option maxRecDepth 100000
set_option maxHeartbeats 4000000
/-! VmC: the operations, by the hand layer's rules. -/
namespace Vm
open PySem PySem.Spec PyProof.Rows L2

theorem lim_eq : (sizeLine : Nat) = LIM := sizeLine_eq

/-- what is wanted of a value -/
def Ok1 (K : PySem.W.Frag) (H : Hp) (ι : List Addr) (Q : VK) : Dv → Sto → Prop := fun d S' => ∀ v H' ι', Sim K S' H' ι' → Nx K H H' ι ι' → Rl K H' ι' d v → Q v H'

section
variable {K : PySem.W.Frag} {S : Sto} {H : Hp} {ι : List Addr} {Q : VK} {B : Exn → Sto → Prop} {x y d : Dv} {v u : V} {xs ys : List Dv} {vs ws : List V}
theorem Ok1.here (s : Sim K S H ι) (r : Rl K H ι d v) (h : Ok1 K H ι Q d S) : Q v H := h v H ι s (Nx.refl K H ι) r
theorem Ok1.newL (s : Sim K S H ι) (r : Rls K H ι xs vs) (h : (new (.lst xs) S).sat (Ok1 K H ι Q) B) : ∀ p, H p = none → Q (.ref p) (upd H p (.lst vs)) := fun p hp => by
  have nx : Nx K H (upd H p (.lst vs)) ι (ι ++ [p]) := Nx.newCell hp _
  refine h (.ref p) _ (ι ++ [p]) (s.newCell hp ⟨vs, upd_same, r.mono nx⟩) nx (.ref ?_)
  rw [← s.len, List.getElem?_append_right (Nat.le_refl _), Nat.sub_self]
  rfl
theorem Ok1.newD {kvs : List (Key × Dv)} {zs : List (Key × V)} (s : Sim K S H ι) (r : RlP K H ι kvs zs) (h : (new (.dct kvs) S).sat (Ok1 K H ι Q) B) : ∀ p, H p = none → Q (.ref p) (upd H p (.dK zs)) := fun p hp => by
  have nx : Nx K H (upd H p (.dK zs)) ι (ι ++ [p]) := Nx.newCell hp _
  refine h (.ref p) _ (ι ++ [p]) (s.newCell hp ⟨zs, upd_same, r.mono nx⟩) nx (.ref ?_)
  rw [← s.len, List.getElem?_append_right (Nat.le_refl _), Nat.sub_self]
  rfl
theorem Ok1.newT (s : Sim K S H ι) (r : Rls K H ι xs vs) (h : Ok1 K H ι Q (.tup xs) S) : ∀ p, H p = none → Q (.ref p) (upd H p (.tup vs)) := fun p hp =>
  h (.ref p) _ ι (s.newTup hp vs) (Nx.newTup hp vs) (.tup (.inl upd_same) (r.mono (Nx.newTup hp vs)))
/-- a sequence: what stands there -/
theorem seqv_at (s : Sim K S H ι) (r : Rl K H ι d v) (h : seqv S d = some xs) : ∃ a vs, v = .ref a ∧ Rls K H ι xs vs ∧ ((SqL K H a vs ∧ ∀ ys, d ≠ .tup ys) ∨ (SqT K H a vs ∧ IsT K H a vs ∧ d = .tup xs)) := by
  cases r with
  | non => cases h
  | bl b => cases h
  | int i => cases h
  | str x => cases h
  | ty n => cases h
  | @ref n a e =>
    simp only [seqv] at h
    cases hc : S[n]? with
    | none => rw [hc] at h; cases h
    | some c =>
      rw [hc] at h
      cases c with
      | lst ys =>
        cases h
        obtain ⟨vs, e1, r1⟩ := s.ok n _ a hc e
        exact ⟨a, vs, rfl, r1, .inl ⟨SqL.of e1, fun _ z => nomatch z⟩⟩
      | dct _ => cases h
      | fd _ => cases h
  | @tup a ds ws e r1 =>
    cases h
    exact ⟨a, ws, rfl, r1, .inr ⟨e.sq, e, rfl⟩⟩
  | @rol a ds ws e r1 =>
    cases h
    exact ⟨a, ws, rfl, r1, .inl ⟨e.sq, fun _ z => nomatch z⟩⟩
theorem lst_at {n : Nat} (s : Sim K S H ι) (r : Rl K H ι (.ref n) v) (h : S[n]? = some (.lst xs)) : ∃ a vs, v = .ref a ∧ ι[n]? = some a ∧ H a = some (.lst vs) ∧ Rls K H ι xs vs := by
  cases r with
  | @ref _ a e =>
    obtain ⟨vs, e1, r1⟩ := s.ok n _ a h e
    exact ⟨a, vs, rfl, e, e1, r1⟩
theorem dct_at {n : Nat} {kvs : List (Key × Dv)} (s : Sim K S H ι) (r : Rl K H ι (.ref n) v) (h : S[n]? = some (.dct kvs)) : ∃ a zs, v = .ref a ∧ ι[n]? = some a ∧ H a = some (.dK zs) ∧ RlP K H ι kvs zs := by
  cases r with
  | @ref _ a e =>
    obtain ⟨vs, e1, r1⟩ := s.ok n _ a h e
    exact ⟨a, vs, rfl, e, e1, r1⟩
theorem Ok1.setL {n : Nat} {a : Addr} {c : Cel} (s : Sim K S H ι) (h0 : S[n]? = some c) (w : wr c = true) (ha : ι[n]? = some a) (r : Rls K H ι xs vs) (rd : ∀ H', Rl K H' ι d v) (h : Ok1 K H ι Q d (S.set n (.lst xs))) : Q v (upd H a (.lst vs)) :=
  h v _ ι (s.write h0 w rfl ha ⟨vs, upd_same, r.mono (Nx.write s h0 w ha _)⟩) (Nx.write s h0 w ha _) (rd _)
theorem Ok1.setD {n : Nat} {a : Addr} {c : Cel} {kvs : List (Key × Dv)} {zs : List (Key × V)} (s : Sim K S H ι) (h0 : S[n]? = some c) (w : wr c = true) (ha : ι[n]? = some a) (r : RlP K H ι kvs zs) (rd : ∀ H', Rl K H' ι d v) (h : Ok1 K H ι Q d (S.set n (.dct kvs))) : Q v (upd H a (.dK zs)) :=
  h v _ ι (s.write h0 w rfl ha ⟨zs, upd_same, r.mono (Nx.write s h0 w ha _)⟩) (Nx.write s h0 w ha _) (rd _)
end

/-! ### operators -/
/-- the readings of the operators -/
def rB (K : PySem.W.Frag) : Operator → R2
  | .Add => fun x y H Q => rI0 (fun i j => .int (i + j)) x y H Q ∨ (∃ i j, x = .str i ∧ y = .str j ∧ i.length + j.length ≤ sizeLine ∧ Q (.str (i ++ j)) H) ∨ rCatA K x y H Q ∨ rCat x y H Q
  | .Sub => rI0 fun i j => .int (i - j)
  | .Mult => rI CMul fun i j => .int (i * j)
  | .FloorDiv => rI CDiv fun i j => .int (i / j)
  | .Mod => rI (fun _ j => 0 < j) fun i j => .int (i % j)
  | .Pow => rI CPow fun i j => .int (i ^ j.toNat)
  | _ => fun _ _ _ _ => False
theorem OpR.never {X : Cx} {f : Value → Value → Sem Value} : OpR X f (fun _ _ _ _ => False) := fun _ _ _ _ _ _ _ _ _ _ _ _ h => h.elim
theorem op_rB {X : Cx} : ∀ o : Operator, OpR X (binaryOp o) (rB X.K o)
  | .Add => op_add.or (op_add_str.or (op_catA.or op_cat))
  | .Sub => op_sub
  | .Mult => op_mul
  | .FloorDiv => op_fdiv
  | .Mod => op_mod
  | .Pow => op_pow
  | .MatMult => OpR.never
  | .Div => OpR.never
  | .LShift => OpR.never
  | .RShift => OpR.never
  | .BitOr => OpR.never
  | .BitXor => OpR.never
  | .BitAnd => OpR.never

section
variable {K : PySem.W.Frag} {S : Sto} {H : Hp} {ι : List Addr} {Q : VK} {B : Exn → Sto → Prop} {x y d : Dv} {v u : V} {xs ys : List Dv} {vs ws : List V}
theorem rB_ok (s : Sim K S H ι) (rx : Rl K H ι x v) (ry : Rl K H ι y u) {o : Operator} (h : (binop o x y S).sat (Ok1 K H ι Q) B) : rB K o v u H Q := by
  unfold binop at h
  split at h
  · cases rx; cases ry
    exact .inl ⟨_, _, rfl, rfl, h.here s (.int _)⟩
  · cases rx; cases ry
    split at h
    · exact .inr (.inl ⟨_, _, rfl, rfl, by rw [lim_eq]; assumption, h.here s (.str _)⟩)
    · exact h.elim
  · cases rx with
    | @tup a _ vs e1 r1 =>
      cases ry with
      | @tup b _ ws e2 r2 =>
        split at h
        · rename_i hl
          rw [r1.length, r2.length] at hl
          refine .inr (.inr (.inl ⟨a, b, vs, ws, rfl, rfl, e1.sq, e2.sq, by rw [lim_eq]; exact hl, fun e => ?_, fun _ e => ?_, fun _ _ => ?_⟩))
          · subst e
            cases r1
            exact h.here s (.tup e2 r2)
          · subst e
            cases r2
            rw [List.append_nil] at h
            exact h.here s (.tup e1 r1)
          · exact Ok1.newT s (r1.append r2) h
        · exact h.elim
  · split at h
    · rename_i h1 h2
      obtain ⟨a', vs, rfl, _, e1, r1⟩ := lst_at s rx h1
      obtain ⟨b', ws, rfl, _, e2, r2⟩ := lst_at s ry h2
      split at h
      · rename_i hl
        rw [r1.length, r2.length] at hl
        exact .inr (.inr (.inr ⟨a', b', vs, ws, rfl, rfl, e1, e2, by rw [lim_eq]; exact hl, Ok1.newL s (r1.append r2) h⟩))
      · exact h.elim
    · exact h.elim
  · cases rx; cases ry
    exact ⟨_, _, rfl, rfl, h.here s (.int _)⟩
  · cases rx; cases ry
    split at h
    · exact ⟨_, _, rfl, rfl, by assumption, h.here s (.int _)⟩
    · exact h.elim
  · cases rx; cases ry
    split at h
    · exact ⟨_, _, rfl, rfl, by assumption, h.here s (.int _)⟩
    · exact h.elim
  · cases rx; cases ry
    split at h
    · exact ⟨_, _, rfl, rfl, by assumption, h.here s (.int _)⟩
    · exact h.elim
  · cases rx; cases ry
    split at h
    · exact ⟨_, _, rfl, rfl, by assumption, h.here s (.int _)⟩
    · exact h.elim
  · exact h.elim

/-! ### comparisons -/
theorem feq_scal {b : Bool} (rx : Rl K H ι x v) (ry : Rl K H ι y u) (h : feq x y = some b) : scal v u = true ∧ decide (v = u) = b := by
  cases rx <;> cases ry <;> first | (cases h; done) | (cases h; exact ⟨rfl, by simp⟩) | (cases h; exact ⟨rfl, rfl⟩)
theorem feq_flat {b : Bool} (rx : Rl K H ι x v) (ry : Rl K H ι y u) (h : feq x y = some b) : flatV v = true ∧ flatV u = true ∧ eqV v u = b := by
  cases rx <;> cases ry <;> first
    | (cases h; done)
    | (cases h; exact ⟨rfl, rfl, rfl⟩)
    | (cases h; refine ⟨rfl, rfl, ?_⟩; simp [eqV, Bool.beq_eq_decide_eq])
theorem isIn_ok {b : Bool} (rx : Rl K H ι x v) (fx : flatV v = true) : ∀ {xs : List Dv} {vs : List V} {b : Bool}, Rls K H ι xs vs → isIn x xs = some b → vs.all flatV = true ∧ inV v vs = b
  | [], _, _, .nil, h => by cases h; exact ⟨rfl, rfl⟩
  | y :: r, _, b, .cons r1 r2, h => by
    unfold isIn at h
    cases h1 : feq y x with
    | none => rw [h1] at h; cases h
    | some b1 =>
      cases h2 : isIn x r with
      | none => rw [h1, h2] at h; cases h
      | some b2 =>
        rw [h1, h2] at h
        cases h
        obtain ⟨f1, f2, e⟩ := feq_flat r1 rx h1
        obtain ⟨g1, g2⟩ := isIn_ok (b := b) rx fx r2 h2
        refine ⟨by rw [List.all_cons, f1, g1]; rfl, ?_⟩
        show (List.any (_ :: _) fun y => eqV y v) = _
        rw [List.any_cons, e]
        have g2' : (List.any _ fun y => eqV y v) = b2 := g2
        rw [g2']
theorem sameD_ok (rx : Rl K H ι x v) (ry : Rl K H ι y u) (h : sameD x y = true) : v = u ∧ flatB v = true := by
  unfold sameD at h
  split at h
  · cases rx; cases ry; exact ⟨rfl, rfl⟩
  · rw [decide_eq_true_eq] at h; subst h; cases rx; cases ry; exact ⟨rfl, rfl⟩
  · rw [decide_eq_true_eq] at h; subst h; cases rx; cases ry; exact ⟨rfl, rfl⟩
  · rw [decide_eq_true_eq] at h; subst h; cases rx; cases ry; exact ⟨rfl, rfl⟩
  · cases h
mutual
theorem vw_ok (s : Sim K S H ι) : ∀ (n : Nat) {d : Dv} {v : V} {p : PyData}, Rl K H ι d v → vw S n d = some p → Dp K H v p
  | 0, d, v, p, r, h => by unfold vw at h; cases h
  | n + 1, d, v, p, r, h => by
    unfold vw at h
    cases r with
    | non => cases h; exact .non
    | bl b => cases h; exact .bl b
    | int i => cases h; exact .int i
    | str x => cases h; exact .str x
    | ty n => cases h
    | @ref k a e =>
      simp only at h
      split at h
      · rename_i xs hc
        obtain ⟨vs, e1, r1⟩ := s.ok k _ a hc e
        cases hq : vws (vw S n) xs with
        | none => rw [hq] at h; cases h
        | some ps =>
          rw [hq] at h
          cases h
          exact .lst (SqL.of e1) (vws_ok s n r1 hq)
      · cases h
    | @tup a ds vs ht rs =>
      simp only at h
      cases hq : vws (vw S n) ds with
      | none => rw [hq] at h; cases h
      | some ps =>
        rw [hq] at h
        cases h
        exact .tup ht.sq (vws_ok s n rs hq)
    | @rol a ds vs ht rs =>
      simp only at h
      cases hq : vws (vw S n) ds with
      | none => rw [hq] at h; cases h
      | some ps =>
        rw [hq] at h
        cases h
        exact .lst ht.sq (vws_ok s n rs hq)
theorem vws_ok (s : Sim K S H ι) : ∀ (n : Nat) {ds : List Dv} {vs : List V} {ps : List PyData}, Rls K H ι ds vs → vws (vw S n) ds = some ps → DpAll K H vs ps
  | n, [], _, ps, .nil, h => by
    unfold vws at h
    cases h
    exact .nil
  | n, d :: r, _, ps, .cons r1 r2, h => by
    unfold vws at h
    cases h1 : vw S n d with
    | none => rw [h1] at h; cases h
    | some p =>
      cases h2 : vws (vw S n) r with
      | none => rw [h1, h2] at h; cases h
      | some qs =>
        rw [h1, h2] at h
        cases h
        exact .cons (vw_ok s n r1 h1) (vws_ok s n r2 h2)
end
end
/-- the readings of == -/
def rEqX (K : PySem.W.Frag) : R2 := fun x y H Q => rEq x y H Q ∨ rEqDA x y H Q ∨ rEqD K x y H Q
def rNeX (K : PySem.W.Frag) : R2 := fun x y H Q => rNe x y H Q ∨ rNeDA x y H Q ∨ rNeD K x y H Q
def rC (K : PySem.W.Frag) : CmpOp → R2
  | .Eq => rEqX K
  | .NotEq => rNeX K
  | .Lt => rI0 fun i j => .bl (decide (i < j))
  | .LtE => rI0 fun i j => .bl (decide (i ≤ j))
  | .Gt => rI0 fun i j => .bl (decide (j < i))
  | .GtE => rI0 fun i j => .bl (decide (j ≤ i))
  | .Is => fun x y H Q => y = .non ∧ Q (.bl (decide (x = .non))) H
  | .IsNot => fun x y H Q => y = .non ∧ Q (.bl (!decide (x = .non))) H
  | .In => rIn K false
  | .NotIn => rIn K true
theorem op_rC {X : Cx} (hu : X.A.units + 64 < cLine) : ∀ o : CmpOp, OpR X (compareOp o) (rC X.K o)
  | .Eq => op_eq.or ((op_eq_dictA (by omega)).or (op_eqD hu))
  | .NotEq => op_ne.or ((op_ne_dictA (by omega)).or (op_neD hu))
  | .Lt => op_lt
  | .LtE => op_le
  | .Gt => op_gt
  | .GtE => op_ge
  | .Is => op_isN
  | .IsNot => op_notN
  | .In => op_in_seq
  | .NotIn => op_notIn_seq
section
variable {K : PySem.W.Frag} {S : Sto} {H : Hp} {ι : List Addr} {Q : VK} {B : Exn → Sto → Prop} {x y d : Dv} {v u : V} {xs ys : List Dv} {vs ws : List V}
theorem inop_ok (s : Sim K S H ι) (rx : Rl K H ι x v) (ry : Rl K H ι y u) {neg : Bool} (h : (inop x y S neg).sat (Ok1 K H ι Q) B) : rIn K neg v u H Q := by
  unfold inop at h
  split at h
  · rename_i xs hx
    split at h
    · rename_i hf
      split at h
      · rename_i b hb
        obtain ⟨a, ws, rfl, r1, q⟩ := seqv_at s ry hx
        have fx : flatV v = true := by cases rx <;> first | rfl | cases hf
        obtain ⟨g1, g2⟩ := isIn_ok (b := b) rx fx r1 hb
        have q' : SqL K H a ws ∨ SqT K H a ws := by
          rcases q with ⟨q, _⟩ | ⟨q, _, _⟩
          · exact .inl q
          · exact .inr q
        refine ⟨a, ws, rfl, q', fx, g1, ?_⟩
        rw [g2]
        exact h.here s (.bl _)
      · exact h.elim
    · exact h.elim
  · exact h.elim
theorem getD_rl (k : Key) : ∀ {kvs : List (Key × Dv)} {zs : List (Key × V)} {d : Dv}, RlP K H ι kvs zs → getD kvs k = some d → ∃ v, valV zs k = some v ∧ Rl K H ι d v
  | [], _, _, .nil, h => by cases h
  | p :: kvs, q :: zs, d, .cons r t, h => by
    unfold getD at h
    rw [List.find?_cons] at h
    by_cases e : p.1 = k
    · rw [decide_eq_true e] at h
      cases h
      exact ⟨q.2, valV_pos (by rw [← r.1]; exact e), r.2⟩
    · rw [decide_eq_false e] at h
      obtain ⟨v, h1, h2⟩ := getD_rl k t h
      exact ⟨v, by rw [valV_neg (by rw [← r.1]; exact e)]; exact h1, h2⟩
theorem same_all {ls : List (Key × Dv)} {zs : List (Key × V)} (rl : RlP K H ι ls zs) : ∀ {ks : List (Key × Dv)} {ws : List (Key × V)}, RlP K H ι ks ws → (ks.all fun p => match getD ls p.1 with
    | some d => sameD p.2 d
    | none => false) = true → ∀ p ∈ ws, valV zs p.1 = some p.2 ∧ flatB p.2 = true
  | [], _, .nil, _, p, hp => by cases hp
  | k :: ks, w :: ws, .cons r t, h, p, hp => by
    rw [List.all_cons, Bool.and_eq_true] at h
    rcases List.mem_cons.mp hp with e | hp
    · subst e
      cases hg : getD ls k.1 with
      | none => rw [hg] at h; exact nomatch h.1
      | some d =>
        rw [hg] at h
        obtain ⟨v, h1, h2⟩ := getD_rl k.1 rl hg
        obtain ⟨e1, e2⟩ := sameD_ok r.2 h2 h.1
        rw [← r.1, e1]
        exact ⟨h1, by rw [← e1]; exact e2⟩
    · exact same_all rl t h.2 p hp
theorem dctEq_ok {b : Bool} (s : Sim K S H ι) (rx : Rl K H ι x v) (ry : Rl K H ι y u) (h : dctEq S x y = some b) : b = true ∧ ∃ a c ks ls, v = .ref a ∧ u = .ref c ∧ H a = some (.dK ks) ∧ H c = some (.dK ls) ∧ ks.length = ls.length ∧ ∀ p ∈ ks, valV ls p.1 = some p.2 ∧ flatB p.2 = true := by
  unfold dctEq at h
  split at h
  · split at h
    · rename_i ks ls h1 h2
      split at h
      · rename_i hs
        cases h
        unfold dctSame at hs
        rw [Bool.and_eq_true, decide_eq_true_eq] at hs
        obtain ⟨a, zs, rfl, _, e1, r1⟩ := dct_at s rx h1
        obtain ⟨c, ws, rfl, _, e2, r2⟩ := dct_at s ry h2
        refine ⟨rfl, a, c, zs, ws, rfl, rfl, e1, e2, ?_, same_all r2 r1 hs.2⟩
        have l1 : ks.length = zs.length := Paired.length r1
        have l2 : ls.length = ws.length := Paired.length r2
        rw [← l1, ← l2]
        exact hs.1
      · cases h
    · cases h
  · cases h
theorem eqop_ok {b : Bool} (s : Sim K S H ι) (rx : Rl K H ι x v) (ry : Rl K H ι y u) (h : eqop x y S = some b) :
    (scal v u = true ∧ decide (v = u) = b) ∨ (b = true ∧ ∃ a c ks ls, v = .ref a ∧ u = .ref c ∧ H a = some (.dK ks) ∧ H c = some (.dK ls) ∧ ks.length = ls.length ∧ ∀ p ∈ ks, valV ls p.1 = some p.2 ∧ flatB p.2 = true) ∨
      ∃ d e, Dp K H v d ∧ Dp K H u e ∧ SeqAt.shaped d = true ∧ SeqAt.shaped e = true ∧ PyData.eqv d e = b := by
  unfold eqop at h
  split at h
  · rename_i hf
    cases h
    exact .inl (feq_scal rx ry hf)
  · split at h
    · rename_i hd
      cases h
      exact .inr (.inl (dctEq_ok s rx ry hd))
    · unfold deepEq at h
      split at h
      · rename_i p q hp hq
        split at h
        · rename_i hs
          cases h
          exact .inr (.inr ⟨p, q, vw_ok s _ rx hp, vw_ok s _ ry hq, hs.1, hs.2, rfl⟩)
        · cases h
      · cases h
theorem rC_ok (s : Sim K S H ι) (rx : Rl K H ι x v) (ry : Rl K H ι y u) {o : CmpOp} (h : (cmpop o x y S).sat (Ok1 K H ι Q) B) : rC K o v u H Q := by
  unfold cmpop at h
  split at h
  · split at h
    · rename_i b hb
      rcases eqop_ok s rx ry hb with ⟨e1, e2⟩ | ⟨rfl, a, c, ks, ls, z1, z2, z3, z4, z5, z6⟩ | ⟨d, e, z1, z2, z3, z4, z5⟩
      · exact .inl ⟨e1, by rw [e2]; exact h.here s (.bl _)⟩
      · exact .inr (.inl ⟨a, c, ks, ls, z1, z2, z3, z4, z5, z6, h.here s (.bl _)⟩)
      · exact .inr (.inr ⟨d, e, z1, z2, z3, z4, by rw [z5]; exact h.here s (.bl _)⟩)
    · exact h.elim
  · split at h
    · rename_i b hb
      rcases eqop_ok s rx ry hb with ⟨e1, e2⟩ | ⟨rfl, a, c, ks, ls, z1, z2, z3, z4, z5, z6⟩ | ⟨d, e, z1, z2, z3, z4, z5⟩
      · exact .inl ⟨e1, by rw [e2]; exact h.here s (.bl _)⟩
      · exact .inr (.inl ⟨a, c, ks, ls, z1, z2, z3, z4, z5, z6, h.here s (.bl _)⟩)
      · exact .inr (.inr ⟨d, e, z1, z2, z3, z4, by rw [z5]; exact h.here s (.bl _)⟩)
    · exact h.elim
  · cases rx; cases ry
    exact ⟨_, _, rfl, rfl, h.here s (.bl _)⟩
  · cases rx; cases ry
    exact ⟨_, _, rfl, rfl, h.here s (.bl _)⟩
  · cases rx; cases ry
    exact ⟨_, _, rfl, rfl, h.here s (.bl _)⟩
  · cases rx; cases ry
    exact ⟨_, _, rfl, rfl, h.here s (.bl _)⟩
  · cases ry
    refine ⟨rfl, ?_⟩
    cases rx <;> exact h.here s (.bl _)
  · cases ry
    refine ⟨rfl, ?_⟩
    cases rx <;> exact h.here s (.bl _)
  · exact inop_ok s rx ry h
  · exact inop_ok s rx ry h
  · exact h.elim
end
end Vm

set_option Elab.async false
set_option linter.all false
set_option maxRecDepth 100000
set_option maxHeartbeats 4000000
/-! VmD: truth, built-ins, methods, subscripts, slices, stores. -/
namespace Vm
open PySem PySem.Spec PyProof.Rows L2

section
variable {K : PySem.W.Frag} {S : Sto} {H : Hp} {ι : List Addr} {Q : VK} {B : Exn → Sto → Prop} {x y d : Dv} {v u : V} {xs ys : List Dv} {vs ws : List V}
theorem Rls.isEmpty (r : Rls K H ι xs vs) : vs.isEmpty = xs.isEmpty := by cases r <;> rfl
theorem RlP.isEmpty {kvs : List (Key × Dv)} {zs : List (Key × V)} (r : RlP K H ι kvs zs) : zs.isEmpty = kvs.isEmpty := by cases r <;> rfl
theorem RlP.length {kvs : List (Key × Dv)} {zs : List (Key × V)} (r : RlP K H ι kvs zs) : zs.length = kvs.length := (Paired.length r).symm
theorem truth_ok {b : Bool} (s : Sim K S H ι) (r : Rl K H ι d v) (h : truth S d = some b) : TruV K v H b := by
  cases r with
  | non => cases h; rfl
  | bl b => cases h; rfl
  | int i => cases h; rfl
  | str x =>
    simp only [truth] at h
    split at h
    · cases h; exact ⟨by rw [lim_eq]; assumption, rfl⟩
    · cases h
  | ty n => cases h
  | @ref n a e =>
    simp only [truth] at h
    cases hc : S[n]? with
    | none => rw [hc] at h; cases h
    | some c =>
      rw [hc] at h
      cases c with
      | lst xs =>
        cases h
        obtain ⟨vs, e1, r1⟩ := s.ok n _ a hc e
        exact .inl ⟨vs, SqL.of e1, by rw [r1.isEmpty]⟩
      | dct kvs =>
        cases h
        obtain ⟨zs, e1, r1⟩ := s.ok n _ a hc e
        exact .inr (.inr ⟨zs, e1, by rw [RlP.isEmpty r1]⟩)
      | fd _ => cases h
  | @tup a ds ws e r1 =>
    cases h
    exact .inr (.inl ⟨ws, e.sq, by rw [r1.isEmpty]⟩)
  | @rol a ds ws e r1 =>
    cases h
    exact .inl ⟨ws, e.sq, by rw [r1.isEmpty]⟩

/-! ### dicts -/
theorem keyv_ok {k : Key} (r : Rl K H ι d v) (h : keyv d = some k) : v = kV k := by
  cases r <;> first | (cases h; rfl) | cases h
theorem kD_ok (k : Key) : Rl K H ι (kD k) (kV k) := by
  cases k with
  | inl i => exact .int i
  | inr x => exact .str x
theorem getD_nil (k : Key) : getD [] k = none := rfl
theorem getD_cons (p : Key × Dv) (r : List (Key × Dv)) (k : Key) : getD (p :: r) k = if p.1 = k then some p.2 else getD r k := by
  by_cases e : p.1 = k
  · simp [getD, List.find?_cons, e]
  · simp [getD, List.find?_cons, e]
theorem getD_ok (k : Key) : ∀ {kvs : List (Key × Dv)} {zs : List (Key × V)}, RlP K H ι kvs zs → (∀ d, getD kvs k = some d → ∃ v, valV zs k = some v ∧ Rl K H ι d v) ∧ (getD kvs k = none → valV zs k = none)
  | _, _, .nil => ⟨(fun _ h => nomatch h), (fun _ => rfl)⟩
  | p :: kvs, q :: zs, .cons r t => by
    obtain ⟨i1, i2⟩ := getD_ok k t
    rw [getD_cons]
    by_cases e : p.1 = k
    · rw [if_pos e, valV_pos (r.1.symm.trans e)]
      exact ⟨(fun d h => ⟨q.2, rfl, Option.some.inj h ▸ r.2⟩), (fun h => nomatch h)⟩
    · rw [if_neg e, valV_neg (fun z => e (r.1.trans z))]
      exact ⟨i1, i2⟩
theorem any_ok (k : Key) : ∀ {kvs : List (Key × Dv)} {zs : List (Key × V)}, RlP K H ι kvs zs → (kvs.any fun kv => decide (kv.1 = k)) = zs.any fun kv => decide (kv.1 = k)
  | _, _, .nil => rfl
  | p :: kvs, q :: zs, .cons r t => by
    rw [List.any_cons, List.any_cons, any_ok k t, r.1]
theorem repl_ok (k : Key) (rd : Rl K H ι d v) : ∀ {kvs : List (Key × Dv)} {zs : List (Key × V)}, RlP K H ι kvs zs → RlP K H ι (kvs.map fun kv => if kv.1 = k then (kv.1, d) else kv) (zs.map fun kv => if kv.1 = k then (kv.1, v) else kv)
  | _, _, .nil => .nil
  | p :: kvs, q :: zs, .cons r t => by
    refine .cons ?_ (repl_ok k rd t)
    show (if p.1 = k then (p.1, d) else p).1 = (if q.1 = k then (q.1, v) else q).1 ∧ Rl K H ι (if p.1 = k then (p.1, d) else p).2 (if q.1 = k then (q.1, v) else q).2
    rw [← r.1]
    by_cases e : p.1 = k
    · rw [if_pos e, if_pos e]; exact ⟨rfl, rd⟩
    · rw [if_neg e, if_neg e]; exact r
theorem paired_append {α β : Type} {F : α → β → Prop} : ∀ {l : List α} {m : List β} {l' : List α} {m' : List β}, Paired F l m → Paired F l' m' → Paired F (l ++ l') (m ++ m')
  | _, _, _, _, .nil, q => q
  | _, _, _, _, .cons r t, q => .cons r (paired_append t q)
theorem putD_ok (k : Key) (rd : Rl K H ι d v) {kvs : List (Key × Dv)} {zs : List (Key × V)} (r : RlP K H ι kvs zs) : RlP K H ι (putD kvs k d) (putK zs k v) := by
  unfold putD putK
  rw [any_ok k r]
  split
  · exact repl_ok k rd r
  · exact paired_append r (.cons ⟨rfl, rd⟩ .nil)
theorem mergeD_ok : ∀ {more : List (Key × Dv)} {ms : List (Key × V)} {kvs : List (Key × Dv)} {zs : List (Key × V)}, RlP K H ι more ms → RlP K H ι kvs zs → RlP K H ι (mergeD kvs more) (mergeK zs ms)
  | _, _, _, _, .nil, q => q
  | p :: more, m :: ms, kvs, zs, .cons r t, q => by
    show RlP K H ι (mergeD (putD kvs p.1 p.2) more) (mergeK (putK zs m.1 m.2) ms)
    rw [← r.1]
    exact mergeD_ok t (putD_ok p.1 r.2 q)
end

/-! ### built-ins by name -/
def bv : Blt → Value
  | .abs => .builtin "abs"
  | .len => .builtin "len"
  | .int => .type "int"
  | .str => .type "str"
  | .sorted => .builtin "sorted"
  | .tuple => .type "tuple"
  | .list => .type "list"
  | .dict => .type "dict"
  | .isinstance => .builtin "isinstance"
  | .bool => .type "bool"
def bn : Blt → Str
  | .abs => "abs"
  | .len => "len"
  | .int => "int"
  | .str => "str"
  | .sorted => "sorted"
  | .tuple => "tuple"
  | .list => "list"
  | .dict => "dict"
  | .isinstance => "isinstance"
  | .bool => "bool"
theorem call_dictD {X : Cx} : CallR X (.type "dict") (fun xs H Q => ∃ a kvs, xs = [V.ref a] ∧ H a = some (.dK kvs) ∧ ∀ p, H p = none → Q (.ref p) (upd H p (.dK kvs))) := by
  intro pins s σ H xs us Q I r h
  obtain ⟨a, kvs, rfl, ha, q⟩ := h
  obtain ⟨u, rfl, ru⟩ := vals1 r
  cases ru
  exact d_copyOf I (.inl ha) fun p s' hp I' => ⟨.ref p, _, I', rfl, q p hp⟩
def rBl (K : PySem.W.Frag) : Blt → List V → Hp → VK → Prop
  | .abs => fun xs H Q => ∃ i, xs = [.int i] ∧ Q (.int (if i < 0 then -i else i)) H
  | .len => fun xs H Q => (∃ x n, xs = [x] ∧ LenV K x H n ∧ Q (.int n) H) ∨ ∃ a kvs, xs = [V.ref a] ∧ H a = some (.dK kvs) ∧ Q (.int kvs.length) H
  | .int => fun xs H Q => (∃ i, xs = [.int i] ∧ Q (.int i) H) ∨ ∃ k, xs = [.bl k] ∧ Q (.int (if k then 1 else 0)) H
  | .bool => fun xs H Q => (∃ i, xs = [.int i] ∧ Q (.bl (i != 0)) H) ∨ ∃ k, xs = [.bl k] ∧ Q (.bl k) H
  | .str => fun xs H Q => (∃ i, xs = [.int i] ∧ i.natAbs.log2 < 1920 ∧ Q (.str (toString i)) H) ∨ ∃ a, xs = [.str a] ∧ Q (.str a) H
  | .sorted => fun vs H Q => rSortedI K vs H Q ∨ rSortedS K vs H Q
  | .tuple => fun xs H Q => ∃ p ys, xs = [.ref p] ∧ ((SqL K H p ys ∧ ∀ l, H l = none → Q (.ref l) (upd H l (.tup ys))) ∨ (SqT K H p ys ∧ Q (.ref p) H))
  | .list => fun xs H Q => ∃ p ys, xs = [.ref p] ∧ (SqL K H p ys ∨ SqT K H p ys) ∧ ∀ l, H l = none → Q (.ref l) (upd H l (.lst ys))
  | .dict => fun xs H Q => ∃ a kvs, xs = [V.ref a] ∧ H a = some (.dK kvs) ∧ ∀ p, H p = none → Q (.ref p) (upd H p (.dK kvs))
  | .isinstance => rIsi K
theorem call_rBl {X : Cx} : ∀ b : Blt, CallR X (bv b) (rBl X.K b)
  | .abs => call_abs
  | .len => call_len.or call_lenD
  | .int => call_int1
  | .bool => call_bool1
  | .str => call_str_int.or SkE.call_str_str
  | .sorted => cr_sortedI.or cr_sortedS
  | .tuple => call_tuple_of
  | .list => call_list_of
  | .dict => call_dictD
  | .isinstance => call_isi

section
variable {K : PySem.W.Frag} {S : Sto} {H : Hp} {ι : List Addr} {Q : VK} {B : Exn → Sto → Prop} {x y d : Dv} {v u : V} {xs ys : List Dv} {vs ws : List V}
theorem sortI_eq {ns ms : List Int} (p : ms.Perm ns) (o : ms.Pairwise (· ≤ ·)) : ms = sortI ns := by
  have h1 : (sortI ns).Perm ns := List.mergeSort_perm ns _
  have h2 : (sortI ns).Pairwise (fun a b => decide (a ≤ b) = true) := List.pairwise_mergeSort (fun a b c h1 h2 => by simp at *; omega) (fun a b => by simp; omega) ns
  have h3 : (sortI ns).Pairwise (· ≤ ·) := h2.imp fun h => of_decide_eq_true h
  exact (p.trans h1.symm).eq_of_pairwise (fun x y _ _ a b => Int.le_antisymm a b) o h3
theorem strLt_irrefl (x : Str) : strLt x x = false := decide_eq_false (List.lt_irrefl _)
theorem str_ext {x y : Str} (h : x.cps.toList = y.cps.toList) : x = y := by
  cases x; cases y
  congr
  exact Array.toList_inj.mp h
theorem tyn_ok {t : String} (s : Sim K S H ι) (r : Rl K H ι d v) (h : tyn S d = some t) : TyX K H v (.type t) := by
  cases r with
  | non => cases h; exact .base .non
  | bl b => cases h; exact .base (.bl _)
  | int i => cases h; exact .base (.int _)
  | str x => cases h; exact .base (.str _)
  | ty n => cases h
  | @ref n a e =>
    simp only [tyn] at h
    cases hc : S[n]? with
    | none => rw [hc] at h; cases h
    | some c =>
      rw [hc] at h
      cases c with
      | lst xs =>
        cases h
        obtain ⟨vs, e1, r1⟩ := s.ok n _ a hc e
        exact .base (.lst e1)
      | dct kvs =>
        cases h
        obtain ⟨zs, e1, r1⟩ := s.ok n _ a hc e
        exact .base (.dK e1)
      | fd _ => cases h
  | @tup a ds ws e r1 =>
    cases h
    rcases e with e | ⟨o, its, n, h1, h2, h3, h4, h5, h6⟩
    · exact .base (.tup e)
    · exact .kTuple h1 h2
  | @rol a ds ws e r1 =>
    cases h
    rcases e with ⟨o, e⟩ | ⟨o, its, n, h1, h2, h3, h4, h5, h6⟩
    · exact .base (.frz e)
    · exact .kList h1 h2
theorem sortS_eq {ns ms : List Str} (p : ms.Perm ns) (o : sortedS ms = true) : ms = sortS ns := by
  have tr : ∀ a b c : Str, (!strLt b a) = true → (!strLt c b) = true → (!strLt c a) = true := fun a b c h1 h2 => by
    simp only [strLt, Bool.not_eq_true', decide_eq_false_iff_not] at *
    exact List.not_lt.mpr (List.le_trans (List.not_lt.mp h1) (List.not_lt.mp h2))
  have tt : ∀ a b : Str, ((!strLt b a) || (!strLt a b)) = true := fun a b => by
    simp only [strLt, Bool.or_eq_true, Bool.not_eq_true', decide_eq_false_iff_not]
    rcases List.le_total a.cps.toList b.cps.toList with h | h
    · exact .inl (List.not_lt.mpr h)
    · exact .inr (List.not_lt.mpr h)
  have h1 : (sortS ns).Perm ns := List.mergeSort_perm ns _
  have h2 : (sortS ns).Pairwise (fun a b => (!strLt b a) = true) := List.pairwise_mergeSort tr tt ns
  have ris : ∀ (l : List Str) (x : Str), risingS x l = true → (x :: l).Pairwise (fun a b => (!strLt b a) = true) := by
    intro l
    induction l with
    | nil => intro x _; exact List.pairwise_singleton ..
    | cons y r ih =>
      intro x h
      unfold risingS at h
      rw [Bool.and_eq_true, ltCps_eq] at h
      have h' := ih y h.2
      have hxy : (!strLt y x) = true := h.1
      refine List.pairwise_cons.mpr ⟨fun z hz => ?_, h'⟩
      rcases List.mem_cons.mp hz with e | hz
      · rw [e]; exact hxy
      · exact tr x y z hxy ((List.pairwise_cons.mp h').1 z hz)
  have h3 : ms.Pairwise (fun a b => (!strLt b a) = true) := by
    cases ms with
    | nil => exact .nil
    | cons x r => exact ris r x o
  refine (p.trans h1.symm).eq_of_pairwise (fun x y _ _ a b => ?_) h3 h2
  simp only [strLt, Bool.not_eq_true', decide_eq_false_iff_not] at a b
  exact str_ext (List.le_antisymm (List.not_lt.mp a) (List.not_lt.mp b))
theorem sq_or {a : Addr} {P : Prop} {P' : Prop} (q : (SqL K H a vs ∧ P) ∨ (SqT K H a vs ∧ P')) : SqL K H a vs ∨ SqT K H a vs := by
  rcases q with ⟨q, _⟩ | ⟨q, _⟩
  · exact .inl q
  · exact .inr q
theorem sorted_ok (s : Sim K S H ι) (r : Rl K H ι d v) (hx : seqv S d = some xs) (nt : ∀ ys, d ≠ .tup ys) (h : (sorted xs S).sat (Ok1 K H ι Q) B) : rBl K .sorted [v] H Q := by
  obtain ⟨a, vs, rfl, r1, q⟩ := seqv_at s r hx
  have q' : SqL K H a vs := by
    rcases q with ⟨q, _⟩ | ⟨_, _, q⟩
    · exact q
    · exact absurd q (nt _)
  unfold sorted at h
  split at h
  · rename_i ns hn
    have ev := asInts_vals hn r1
    subst ev
    refine .inl ⟨a, ns, rfl, q', fun ms p hp ho hn => ?_⟩
    rw [sortI_eq hp ho]
    exact Ok1.newL s (Rls.ints _) h p hn
  · split at h
    · rename_i ss hss
      split at h
      · rename_i hl
        have ev := asStrs_vals hss r1
        subst ev
        refine .inr ⟨a, ss, rfl, q', hl, fun ms p hp ho hn => ?_⟩
        rw [sortS_eq hp ho]
        exact Ok1.newL s (Rls.strs _) h p hn
      · exact h.elim
    · exact h.elim
theorem rBl_ok (s : Sim K S H ι) (r : Rls K H ι xs vs) {b : Blt} (h : (bltop b xs S).sat (Ok1 K H ι Q) B) : rBl K b vs H Q := by
  unfold bltop at h
  split at h
  · -- abs
    cases r with
    | cons r t => cases r; cases t; exact ⟨_, rfl, h.here s (.int _)⟩
  · -- len of a text
    cases r with
    | cons r t =>
      cases r; cases t
      split at h
      · exact .inl ⟨_, _, rfl, ⟨by rw [lim_eq]; assumption, rfl⟩, h.here s (.int _)⟩
      · exact h.elim
  · cases r with
    | cons r t =>
      cases t
      cases r with
      | tup e r1 => exact .inl ⟨_, _, rfl, .inr ⟨_, e.sq, rfl⟩, by rw [← r1.length]; exact h.here s (.int _)⟩
  · cases r with
    | cons r t =>
      cases t
      cases r with
      | rol e r1 => exact .inl ⟨_, _, rfl, .inl ⟨_, e.sq, rfl⟩, by rw [← r1.length]; exact h.here s (.int _)⟩
  · cases r with
    | cons r t =>
      cases t
      split at h
      · rename_i n xs hc
        obtain ⟨a, vs, rfl, e, e1, r1⟩ := lst_at s r hc
        exact .inl ⟨_, _, rfl, .inl ⟨_, SqL.of e1, rfl⟩, by rw [← r1.length]; exact h.here s (.int _)⟩
      · rename_i n kvs hc
        obtain ⟨a, zs, rfl, e, e1, r1⟩ := dct_at s r hc
        exact .inr ⟨a, zs, rfl, e1, by rw [RlP.length r1]; exact h.here s (.int _)⟩
      · exact h.elim
  · cases r with
    | cons r t => cases r; cases t; exact .inl ⟨_, rfl, h.here s (.int _)⟩
  · cases r with
    | cons r t => cases r; cases t; exact .inr ⟨_, rfl, h.here s (.int _)⟩
  · cases r with
    | cons r t => cases r; cases t; exact .inl ⟨_, rfl, h.here s (.bl _)⟩
  · cases r with
    | cons r t => cases r; cases t; exact .inr ⟨_, rfl, h.here s (.bl _)⟩
  · cases r with
    | cons r t =>
      cases r; cases t
      split at h
      · exact .inl ⟨_, rfl, by assumption, h.here s (.str _)⟩
      · exact h.elim
  · cases r with
    | cons r t => cases r; cases t; exact .inr ⟨_, rfl, h.here s (.str _)⟩
  · -- sorted
    cases r with
    | cons r t =>
      cases t
      split at h
      · rename_i d xs hx
        split at h
        · exact sorted_ok s r hx (fun _ z => nomatch z) h
        · exact sorted_ok s r hx (fun _ z => nomatch z) h
        · exact h.elim
      · exact h.elim
  · -- tuple
    cases r with
    | cons r t =>
      cases t
      split at h
      · rename_i d xs hx
        obtain ⟨a, vs, rfl, r1, q⟩ := seqv_at s r hx
        refine ⟨a, vs, rfl, ?_⟩
        rcases q with ⟨q, _⟩ | ⟨q, q2, q3⟩
        · exact .inl ⟨q, Ok1.newT s r1 h⟩
        · exact .inr ⟨q, h.here s (.tup q2 r1)⟩
      · exact h.elim
  · -- list
    cases r with
    | cons r t =>
      cases t
      split at h
      · rename_i d xs hx
        obtain ⟨a, vs, rfl, r1, q⟩ := seqv_at s r hx
        exact ⟨a, vs, rfl, sq_or q, Ok1.newL s r1 h⟩
      · exact h.elim
  · -- dict
    cases r with
    | cons r t =>
      cases t
      split at h
      · rename_i n kvs hc
        obtain ⟨a, zs, rfl, e, e1, r1⟩ := dct_at s r hc
        exact ⟨a, zs, rfl, e1, Ok1.newD s r1 h⟩
      · exact h.elim
  · -- isinstance
    cases r with
    | cons r t =>
      cases t with
      | cons r2 t =>
        cases t
        cases r2
        split at h
        · rename_i d n t ht
          split at h
          · rename_i b hb
            exact ⟨_, _, _, _, _, rfl, .ty _, tyn_ok s r ht, kit_ty hb, h.here s (.bl _)⟩
          · exact h.elim
        · exact h.elim
  · exact h.elim
end

/-! ### methods of built-in types -/
def mT : Mth → String
  | .append => "list"
  | .join => "str"
  | .update => "dict"
def mN : Mth → Str
  | .append => "append"
  | .join => "join"
  | .update => "update"
def mI : Mth → String
  | .append => "list.append"
  | .join => "str.join"
  | .update => "dict.update"
def rMt (K : PySem.W.Frag) : Mth → V → List V → Hp → VK → Prop
  | .append => rAppend
  | .join => fun x xs H Q => ∃ a p, ∃ ys : List Str, x = .str a ∧ xs = [.ref p] ∧ (SqL K H p (ys.map V.str) ∨ SqT K H p (ys.map V.str)) ∧
    (ys.map (·.length)).sum + ys.length * a.length ≤ 16777216 ∧ Q (.str (Txt.join a ys)) H
  | .update => fun x xs H Q => ∃ a b kvs more, x = .ref a ∧ xs = [.ref b] ∧ a ≠ b ∧ H a = some (.dK kvs) ∧ H b = some (.dK more) ∧ kvs.length + more.length ≤ sizeLine ∧ Q .non (upd H a (.dK (mergeK kvs more)))
theorem mt_update {X : Cx} : MtR X "dict.update" (rMt X.K .update) := by
  intro pins s σ H x xs v us Q I rx rs h
  obtain ⟨a, b, kvs, more, rfl, rfl, hab, ha, hb, hl, q⟩ := h
  cases rx
  obtain ⟨u, rfl, ru⟩ := vals1 rs
  cases ru
  obtain ⟨z1, hd1, vs1, rel1, dd1⟩ := dk_of I.hok ha
  obtain ⟨z2, hd2, vs2, rel2, dd2⟩ := dk_of I.hok hb
  refine call_meetsIn PySem.F.slot_dict_update dd1.typeIs PySem.F.entry_dict_update (PySem.F.args_dict_update_2 _ _) (meets_dict_update (mixKind X.prog X.w) a b hab hd2)
    ⟨vs1, vs2, dd1, dd2, by rw [← rel1.length, ← rel2.length]; exact hl, fun h' hmm _ hs => ?_⟩
  have he : ∃ q, h'.get? a = some q := let ⟨q, _, _, hq, _⟩ := hmm; ⟨q, hq⟩
  have rel : KV (mergeK kvs more) (merged vs1 vs2) := KV.merge rel2 rel1
  refine ⟨.non, _, d_write (ob := .dK (mergeK kvs more)) (t' := s.toks) I (by rw [ha]; exact True.intro) hs he (dk_new (Nat.le_trans (length_mergeK more kvs) hl) hd1 rel hmm), rfl, q⟩
theorem mt_rMt {X : Cx} : ∀ m : Mth, MtR X (mI m) (rMt X.K m)
  | .append => mt_append
  | .join => mt_join
  | .update => mt_update
section
variable {K : PySem.W.Frag} {S : Sto} {H : Hp} {ι : List Addr} {Q : VK} {B : Exn → Sto → Prop} {x y d : Dv} {v u : V} {xs ys : List Dv} {vs ws : List V}
theorem rMt_ok (s : Sim K S H ι) (rx : Rl K H ι x v) (r : Rls K H ι xs vs) {m : Mth} (h : (mthop m x xs S).sat (Ok1 K H ι Q) B) : rMt K m v vs H Q := by
  unfold mthop at h
  split at h
  · -- append
    cases r with
    | cons r t =>
      cases t
      split at h
      · rename_i xs hc
        split at h
        · rename_i hl
          obtain ⟨a, ws, rfl, e, e1, r1⟩ := lst_at s rx hc
          rw [r1.length] at hl
          exact ⟨a, ws, _, rfl, rfl, e1, by rw [lim_eq]; exact hl, Ok1.setL s hc rfl e (r1.append (.cons r .nil)) (fun _ => .non) h⟩
        · exact h.elim
      · exact h.elim
  · -- join
    cases r with
    | cons r t =>
      cases t
      cases rx
      split at h
      · rename_i xs hx
        split at h
        · rename_i ss hss
          split at h
          · rename_i hl
            obtain ⟨a, ws, rfl, r1, q⟩ := seqv_at s r hx
            have ev := asStrs_vals hss r1
            subst ev
            exact ⟨_, a, ss, rfl, rfl, sq_or q, hl, h.here s (.str _)⟩
          · exact h.elim
        · exact h.elim
      · exact h.elim
  · -- update
    cases r with
    | cons r t =>
      cases t
      split at h
      · rename_i kvs more h1 h2
        split at h
        · rename_i hl
          obtain ⟨a, zs, rfl, e, e1, r1⟩ := dct_at s rx h1
          obtain ⟨b, ms, rfl, e', e2, r2⟩ := dct_at s r h2
          have hab : a ≠ b := fun z => hl.1 (s.inj _ _ _ _ a h1 h2 rfl rfl e (by rw [z]; exact e'))
          refine ⟨a, b, zs, ms, rfl, rfl, hab, e1, e2, ?_, Ok1.setD s h1 rfl e (mergeD_ok r2 r1) (fun _ => .non) h⟩
          rw [RlP.length r1, RlP.length r2, lim_eq]
          exact hl.2
        · exact h.elim
      · exact h.elim
  · exact h.elim
end

/-! ### subscripts -/
def rIxD : R2 := fun x y H Q => ∃ a v, x = .ref a ∧ DGet H a y (some v) ∧ Q v H
theorem ix_dict {X : Cx} (hu : X.A.units + 1 < cLine) : IxR X rIxD := by
  intro value slice pins s σ H x y v u Q I rx ry h hs
  obtain ⟨a, z, rfl, g, q⟩ := h
  cases rx
  exact PyProof.Rows.tail_any (ops := [.ref a, u]) (dict_typeIs I g) PySem.F.slot_dict_getitem.lookup (d_getItem hu I g ry fun w' s' I' rw' => ⟨z, H, I', rw', q⟩) hs
def rIxA (K : PySem.W.Frag) : R2 := fun x y H Q => rIxD x y H Q ∨ rIx K x y H Q
theorem ix_any {X : Cx} (hu : X.A.units + 1 < cLine) : IxR X (rIxA X.K) := (ix_dict hu).or ix_seq
section
variable {K : PySem.W.Frag} {S : Sto} {H : Hp} {ι : List Addr} {Q : VK} {B : Exn → Sto → Prop} {x y d : Dv} {v u : V} {xs ys : List Dv} {vs ws : List V}
theorem atI_ok {i : Int} (r : Rls K H ι xs vs) (h : atI xs i = some d) : ∃ v, atI vs i = some v ∧ Rl K H ι d v := by
  unfold atI at *
  rw [← r.length]
  cases hn : ixN xs.length i with
  | none => rw [hn] at h; cases h
  | some j =>
    rw [hn] at h
    exact r.get h
theorem ixop_ok (s : Sim K S H ι) (rx : Rl K H ι x v) (ry : Rl K H ι y u) (h : (ixop x y S).sat (Ok1 K H ι Q) B) : rIxA K v u H Q := by
  unfold ixop at h
  split at h
  · split at h
    · split at h
      · split at h
        · rename_i hl _ c hc
          cases rx; cases ry
          exact .inr (.inr (.inr ⟨_, _, c, rfl, rfl, by rw [lim_eq]; exact hl, hc, h.here s (.str _)⟩))
        · exact h.elim
      · exact h.elim
    · exact h.elim
  · split at h
    · rename_i n _ kvs hc
      split at h
      · rename_i k hk
        split at h
        · rename_i w hw
          obtain ⟨a, zs, rfl, e, e1, r1⟩ := dct_at s rx hc
          have ek := keyv_ok ry hk
          subst ek
          obtain ⟨z, hz, rz⟩ := (getD_ok k r1).1 _ hw
          exact .inl ⟨a, z, rfl, .inl ⟨zs, k, .inl e1, rfl, hz.symm⟩, h.here s rz⟩
        · exact h.elim
      · exact h.elim
    · rename_i n _ kvs hc
      split at h
      · rename_i k hk
        split at h
        · rename_i w hw
          cases rx with
          | @ref _ a e =>
            obtain ⟨zs, o, e1, r1⟩ := s.ok n _ a hc e
            have ek := keyv_ok ry hk
            subst ek
            obtain ⟨z, hz, rz⟩ := (getD_ok k r1).1 _ hw
            exact .inl ⟨a, z, rfl, .inl ⟨zs, k, .inr ⟨o, e1⟩, rfl, hz.symm⟩, h.here s rz⟩
        · exact h.elim
      · exact h.elim
    · rename_i n _ xs hc
      split at h
      · split at h
        · rename_i w hw
          obtain ⟨a, vs, rfl, r1, q⟩ := seqv_at s rx (show seqv S (.ref n) = some xs by simp only [seqv]; rw [hc])
          obtain ⟨z, hz, rz⟩ := atI_ok r1 hw
          cases ry
          rcases sq_or q with q | q
          · exact .inr (.inl ⟨a, vs, _, z, rfl, rfl, q, hz, h.here s rz⟩)
          · exact .inr (.inr (.inl ⟨a, vs, _, z, rfl, rfl, q, hz, h.here s rz⟩))
        · exact h.elim
      · exact h.elim
    · exact h.elim
  · rename_i xs
    split at h
    · split at h
      · rename_i w hw
        cases rx with
        | tup e r1 =>
          obtain ⟨z, hz, rz⟩ := atI_ok r1 hw
          cases ry
          exact .inr (.inr (.inl ⟨_, _, _, z, rfl, rfl, e.sq, hz, h.here s rz⟩))
      · exact h.elim
    · exact h.elim
  · rename_i xs
    split at h
    · split at h
      · rename_i w hw
        cases rx with
        | rol e r1 =>
          obtain ⟨z, hz, rz⟩ := atI_ok r1 hw
          cases ry
          exact .inr (.inl ⟨_, _, _, z, rfl, rfl, e.sq, hz, h.here s rz⟩)
      · exact h.elim
    · exact h.elim
  · exact h.elim
end

/-! ### slices -/
def rSlX (K : PySem.W.Frag) : V → Option Int → Option Int → Hp → VK → Prop := fun x lo hi H Q => rSlL K x lo hi H Q ∨ rSlA K x lo hi H Q
theorem sl_any {X : Cx} : SlR X (rSlX X.K) := sl_list.or sl_tupA
section
variable {K : PySem.W.Frag} {S : Sto} {H : Hp} {ι : List Addr} {Q : VK} {B : Exn → Sto → Prop} {x y d : Dv} {v u : V} {xs ys : List Dv} {vs ws : List V}
theorem cut_ok (lo hi : Option Int) (r : Rls K H ι xs vs) : Rls K H ι (cutD xs lo hi) (cutV vs lo hi) := by
  unfold cutD cutV
  rw [← r.length]
  exact (r.drop _).take _
theorem slop_ok {lo hi : Option Int} (s : Sim K S H ι) (rx : Rl K H ι x v) (h : (slop x lo hi S).sat (Ok1 K H ι Q) B) : rSlX K v lo hi H Q := by
  unfold slop at h
  split at h
  · cases rx with
    | @tup a _ ws e r1 =>
      refine .inr ⟨_, _, rfl, e.sq, fun hw => ?_, fun _ => Ok1.newT s (cut_ok lo hi r1) h⟩
      refine h.here s (.tup e ?_)
      have e2 : cutV ws lo hi = ws := by
        unfold cutV
        rw [hw.1, hw.2, List.drop_zero, Nat.sub_zero, List.take_length]
      have := cut_ok lo hi r1
      rw [e2] at this
      exact this
  · cases rx with
    | rol e r1 => exact .inl ⟨_, _, rfl, e.sq, Ok1.newL s (cut_ok lo hi r1) h⟩
  · split at h
    · rename_i n _ xs hc
      obtain ⟨a, vs, rfl, r1, q⟩ := seqv_at s rx (show seqv S (.ref n) = some xs by simp only [seqv]; rw [hc])
      rcases q with ⟨q, _⟩ | ⟨_, _, q⟩
      · exact .inl ⟨a, vs, rfl, q, Ok1.newL s (cut_ok lo hi r1) h⟩
      · cases q
    · exact h.elim
  · exact h.elim
end

/-! ### x[y] = v -/
def rSetD : V → V → V → Hp → (Hp → Prop) → Prop := fun o i v H Q => ∃ a H', o = .ref a ∧ DPut H a i v H' ∧ Q H'
theorem set_dict {X : Cx} (hu : X.A.units + 1 < cLine) : PSet X rSetD := by
  intro pins s σ H o i v ov iv u Q I ro ri rv h
  obtain ⟨a, H', rfl, g, q⟩ := h
  cases ro
  exact d_setItem hu I g ri rv fun s' I' => ⟨H', I', q⟩
def rSetX : V → V → V → Hp → (Hp → Prop) → Prop := fun o i v H Q => rSetL o i v H Q ∨ rSetD o i v H Q
theorem set_any {X : Cx} (hu : X.A.units + 1 < cLine) : PSet X rSetX := by
  intro pins s σ H o i v ov iv u Q I ro ri rv h
  rcases h with h | h
  · exact set_list pins s σ H o i v ov iv u Q I ro ri rv h
  · exact set_dict hu pins s σ H o i v ov iv u Q I ro ri rv h
section
variable {K : PySem.W.Frag} {S : Sto} {H : Hp} {ι : List Addr} {B : Exn → Sto → Prop} {x y d : Dv} {v u z : V} {xs ys : List Dv} {vs ws : List V}
theorem setop_ok {Q : Hp → Prop} (s : Sim K S H ι) (rx : Rl K H ι x v) (ry : Rl K H ι y u) (rd : Rl K H ι d z) (h : (setop x y d S).sat (fun _ S' => ∀ H' ι', Sim K S' H' ι' → Nx K H H' ι ι' → Q H') B) : rSetX v u z H Q := by
  unfold setop at h
  split at h
  · split at h
    · rename_i n _ xs hc
      split at h
      · split at h
        · rename_i i _ j hj
          obtain ⟨a, vs, rfl, e, e1, r1⟩ := lst_at s rx hc
          cases ry
          have nx := Nx.write s hc rfl e (.lst (vs.set j z))
          rw [r1.length] at hj
          exact .inl ⟨a, vs, _, j, rfl, rfl, e1, hj, h _ ι (s.write hc rfl rfl e ⟨_, upd_same, (r1.set j rd).mono nx⟩) nx⟩
        · exact h.elim
      · exact h.elim
    · rename_i n _ kvs hc
      split at h
      · rename_i k hk
        split at h
        · rename_i hl
          obtain ⟨a, zs, rfl, e, e1, r1⟩ := dct_at s rx hc
          have ek := keyv_ok ry hk
          subst ek
          have nx := Nx.write s hc rfl e (.dK (putK zs k z))
          exact .inr ⟨a, _, rfl, .inl ⟨zs, k, e1, rfl, by rw [RlP.length r1, lim_eq]; exact hl, rfl⟩, h _ ι (s.write hc rfl rfl e ⟨_, upd_same, RlP.mono nx (putD_ok k rd r1)⟩) nx⟩
        · exact h.elim
      · exact h.elim
    · exact h.elim
  · exact h.elim
end

/-! ### x op= y -/
def rAg : Operator → TIp
  | .Add => ipI fun i j => i + j
  | .Sub => ipI fun i j => i - j
  | _ => fun _ _ _ _ => False
theorem ip_rAg {X : Cx} : ∀ o : Operator, PIp X o (rAg o)
  | .Add => ip_add
  | .Sub => ip_sub
  | .Mult => fun _ _ _ _ _ _ _ _ _ _ _ _ h => h.elim
  | .FloorDiv => fun _ _ _ _ _ _ _ _ _ _ _ _ h => h.elim
  | .Mod => fun _ _ _ _ _ _ _ _ _ _ _ _ h => h.elim
  | .Pow => fun _ _ _ _ _ _ _ _ _ _ _ _ h => h.elim
  | .MatMult => fun _ _ _ _ _ _ _ _ _ _ _ _ h => h.elim
  | .Div => fun _ _ _ _ _ _ _ _ _ _ _ _ h => h.elim
  | .LShift => fun _ _ _ _ _ _ _ _ _ _ _ _ h => h.elim
  | .RShift => fun _ _ _ _ _ _ _ _ _ _ _ _ h => h.elim
  | .BitOr => fun _ _ _ _ _ _ _ _ _ _ _ _ h => h.elim
  | .BitXor => fun _ _ _ _ _ _ _ _ _ _ _ _ h => h.elim
  | .BitAnd => fun _ _ _ _ _ _ _ _ _ _ _ _ h => h.elim
section
variable {K : PySem.W.Frag} {S : Sto} {H : Hp} {ι : List Addr} {Q : VK} {B : Exn → Sto → Prop} {x y d : Dv} {v u : V}
theorem rAg_ok (s : Sim K S H ι) (rx : Rl K H ι x v) (ry : Rl K H ι y u) {o : Operator} (h : (augop o x y S).sat (Ok1 K H ι Q) B) : rAg o v u H Q := by
  unfold augop at h
  split at h
  · cases rx; cases ry
    exact ⟨_, _, rfl, rfl, h.here s (.int _)⟩
  · cases rx; cases ry
    exact ⟨_, _, rfl, rfl, h.here s (.int _)⟩
  · exact h.elim
end
end Vm

set_option Elab.async false
set_option linter.all false
set_option maxRecDepth 100000
set_option maxHeartbeats 4000000
/-! VmE: the semantics as readings; walks; loops; locks. -/
namespace Vm
open PySem PySem.Spec L2

def RlE (K : PySem.W.Frag) (H : Hp) (ι : List Addr) (ρ : Envr) (σ : St) : Prop := ρ.length = σ.length ∧ ∀ (i : Nat) (d : Dv), ρ[i]? = some (some d) → ∃ v, σ[i]? = some (some v) ∧ Rl K H ι d v
inductive RlF (K : PySem.W.Frag) (H : Hp) (ι : List Addr) : List (Str × Dv) → List (Str × V) → Prop
  | nil : RlF K H ι [] []
  | cons {f : Str} {d : Dv} {v : V} {fs : List (Str × Dv)} {ws : List (Str × V)} : Rl K H ι d v → RlF K H ι fs ws → RlF K H ι ((f, d) :: fs) ((f, v) :: ws)
/-- the exception as it lies in the heap -/
def XOk (K : PySem.W.Frag) (x : Exn) (cls : Value) (dx : Option Addr) (H : Hp) (ι : List Addr) : Prop :=
  ∃ C, cls = .ref C ∧ PySem.W.nsIn K mainGlobals x.cls = some (some (.ref C)) ∧ ((x.fs = [] ∧ dx = none) ∨ ∃ a ws, dx = some a ∧ H a = some (.xd ws) ∧ RlF K H ι x.fs ws)
/-- what is wanted of an exception -/
def Bx (K : PySem.W.Frag) (H : Hp) (ι : List Addr) (W : WX) (σ : St) : Exn → Sto → Prop := fun x S' => ∀ cls dx H' ι', Sim K S' H' ι' → Nx K H H' ι ι' → XOk K x cls dx H' ι' → W cls dx σ H'
abbrev Rel (α β : Type) := Hp → List Addr → α → β → Prop
def Okg {α β : Type} (R : Rel α β) (K : PySem.W.Frag) (H : Hp) (ι : List Addr) (Q : β → Hp → Prop) : α → Sto → Prop := fun d S' => ∀ v H' ι', Sim K S' H' ι' → Nx K H H' ι ι' → R H' ι' d v → Q v H'
def sem {α β : Type} (R : Rel α β) (K : PySem.W.Frag) (W : WX) (f : Envr → Sto → Res α) : St → Hp → (β → Hp → Prop) → Prop :=
  fun σ H Q => ∃ ρ S ι, Sim K S H ι ∧ RlE K H ι ρ σ ∧ (f ρ S).sat (Okg R K H ι Q) (Bx K H ι W σ)
abbrev REq {α : Type} : Rel α α := fun _ _ a b => a = b
/-- no exception is taken -/
abbrev WN : WX := fun _ _ _ _ => False

section
variable {K : PySem.W.Frag} {S : Sto} {H H1 H' : Hp} {ι ι1 ι' : List Addr} {W : WX} {σ : St} {ρ : Envr} {α β γ δ : Type} {R : Rel α β}
theorem RlE.mono (n : Nx K H H' ι ι') (h : RlE K H ι ρ σ) : RlE K H' ι' ρ σ := ⟨h.1, fun i d e => let ⟨v, h1, h2⟩ := h.2 i d e; ⟨v, h1, h2.mono n⟩⟩
theorem Okg.mono {Q : β → Hp → Prop} {d : α} (n : Nx K H H1 ι ι1) (h : Okg R K H ι Q d S) : Okg R K H1 ι1 Q d S := fun v H' ι' s n' r => h v H' ι' s (n.trans n') r
theorem Bx.mono {x : Exn} (n : Nx K H H1 ι ι1) (h : Bx K H ι W σ x S) : Bx K H1 ι1 W σ x S := fun cls dx H' ι' s n' r => h cls dx H' ι' s (n.trans n') r
theorem sat_move {Q : β → Hp → Prop} {r : Res α} (n : Nx K H H1 ι ι1) (h : r.sat (Okg R K H ι Q) (Bx K H ι W σ)) : r.sat (Okg R K H1 ι1 Q) (Bx K H1 ι1 W σ) :=
  Res.sat_mono h (fun _ _ q => q.mono n) fun _ _ q => q.mono n
/-- first a, then the rest -/
theorem sem_bind {Rc : Rel γ δ} {Q : δ → Hp → Prop} {T : β → Hp → Prop} {fa : Envr → Sto → Res α} {kf : α → Sto → Res γ} (s : Sim K S H ι) (e : RlE K H ι ρ σ) (h : ((fa ρ S).bind kf).sat (Okg Rc K H ι Q) (Bx K H ι W σ))
    (hk : ∀ d v S1 H1 ι1, Sim K S1 H1 ι1 → RlE K H1 ι1 ρ σ → Nx K H H1 ι ι1 → R H1 ι1 d v → (kf d S1).sat (Okg Rc K H1 ι1 Q) (Bx K H1 ι1 W σ) → T v H1) : sem R K W fa σ H T :=
  ⟨ρ, S, ι, s, e, Res.sat_mono (Res.sat_bind.mp h) (fun d S1 h1 v H1 ι1 s1 n1 r1 => hk d v S1 H1 ι1 s1 (e.mono n1) n1 r1 (sat_move n1 h1)) fun _ _ b => b⟩
end

/-! ### a derivation with a weaker reading -/
section
variable {X : Cx}
theorem PE.of {e : Expr} {t u : TE} (h : PE X e t) (hu : ∀ σ H Q, u σ H Q → t σ H Q) : PE X e u := ⟨fun pins s σ H Q I q => h.run pins s σ H Q I (hu σ H Q q)⟩
theorem PT.of {e : Expr} {t u : TT} (h : PT X e t) (hu : ∀ σ H Q, u σ H Q → t σ H Q) : PT X e u := ⟨fun pins s σ H Q I q => h.run pins s σ H Q I (hu σ H Q q)⟩
theorem PW.of {e : Expr} {t u : TT} (h : PW X e t) (hu : ∀ σ H Q, u σ H Q → t σ H Q) : PW X e u := ⟨fun w pins s σ H Q I q => h.run w pins s σ H Q I (hu σ H Q q)⟩
theorem PA.of {es : List Expr} {t u : TA} (h : PA X es t) (hu : ∀ σ H Q, u σ H Q → t σ H Q) : PA X es u := ⟨fun pos pins s σ H Q I q => h.run pos pins s σ H Q I (hu σ H Q q)⟩
theorem PTs.of {es : List Expr} {t u : TT} (h : PTs X es t) (hu : ∀ σ H Q, u σ H Q → t σ H Q) : PTs X es u := ⟨fun pins s σ H Q I q => h.run pins s σ H Q I (hu σ H Q q)⟩
theorem PO.of {e : Option Expr} {t u : TO} (h : PO X e t) (hu : ∀ σ H Q, u σ H Q → t σ H Q) : PO X e u := ⟨fun pins s σ H Q I q => h.run pins s σ H Q I (hu σ H Q q)⟩
theorem PG.of {e : Expr} {t u : TG} (h : PG X e t) (hu : ∀ v σ H Q, u v σ H Q → t v σ H Q) : PG X e u := ⟨fun pins s σ H v w Q I r q => h.run pins s σ H v w Q I r (hu v σ H Q q)⟩
theorem PGs.of {es : List Expr} {t u : TGs} (h : PGs X es t) (hu : ∀ v σ H Q, u v σ H Q → t v σ H Q) : PGs X es u := ⟨fun pins s σ H v w Q I r q => h.run pins s σ H v w Q I r (hu v σ H Q q)⟩
theorem PI.of {tg e : Expr} {t u : TI} (h : PI X tg e t) (hu : ∀ σ H Q, u σ H Q → t σ H Q) : PI X tg e u := ⟨fun pins s σ H Q I q => h.run pins s σ H Q I (hu σ H Q q)⟩
theorem PI.or {tg e : Expr} {t u : TI} (h : PI X tg e t) (h' : PI X tg e u) : PI X tg e (fun σ H R => t σ H R ∨ u σ H R) := ⟨fun pins s σ H Q I q => by
  rcases q with q | q
  · exact h.run pins s σ H Q I q
  · exact h'.run pins s σ H Q I q⟩
theorem PS.of {st : Stmt} {t u : TS} (h : PS X st t) (hu : ∀ D σ H, u D σ H → t D σ H) : PS X st u := ⟨fun pins s σ H D I q => h.run pins s σ H D I (hu D σ H q)⟩
theorem PSs.of {st : List Stmt} {t u : TS} (h : PSs X st t) (hu : ∀ D σ H, u D σ H → t D σ H) : PSs X st u := ⟨fun pins s σ H D I q => h.run pins s σ H D I (hu D σ H q)⟩
end

/-! ### locks -/
/-- what was locked within is free behind -/
def Unl (H : Hp) (P : Hp → Prop) (H' : Hp) : Prop := P H' ∨ ∃ d od u, H' d = some (.frz od u) ∧ (∀ o' u', H d ≠ some (.frz o' u')) ∧ P (upd H' d u)
def tUnl (t : TS) : TS := fun D σ H => t ⟨fun σ' => Unl H (D.nx σ'), fun v => Unl H (D.rt v), fun σ' => Unl H (D.bk σ'), fun σ' => Unl H (D.ct σ')⟩ σ H
def tUnlE (t : TE) : TE := fun σ H Q => t σ H fun v => Unl H (Q v)
section
variable {X : Cx} {pins : List (Addr × Obj)} {σ σ' : St} {H H' : Hp} {s s' : Shared}
theorem Inv.nofrz' (I : Inv X pins σ H s) {d : Addr} (h : ∀ o' u', H d ≠ some (.frz o' u')) : ∀ o' u', X.H_0 d ≠ some (.frz o' u') := fun o' u' e => h o' u' (I.base.frzs d o' u' e)
theorem Unl.out {P : Hp → Prop} (I : Inv X pins σ H s) (I' : Inv X pins σ' H' s') (h : Unl H P H') : ∃ H2, Inv X pins σ' H2 s' ∧ P H2 := by
  rcases h with h | ⟨d, od, u, hd, hn, h⟩
  · exact ⟨H', I', h⟩
  · exact ⟨_, I'.unlock hd (Inv.nofrz' I hn), h⟩
theorem ps_unl {st : Stmt} {t : TS} (h : PS X st t) : PS X st (tUnl t) := by
  refine ⟨fun pins s σ H D I hw => ?_⟩
  refine thn (h.run pins s σ H _ I hw) fun f s1 q => ?_
  cases f with
  | next => obtain ⟨σ', H', I', q⟩ := q; obtain ⟨H2, I2, q⟩ := Unl.out I I' q; exact ⟨σ', H2, I2, q⟩
  | brk => obtain ⟨σ', H', I', q⟩ := q; obtain ⟨H2, I2, q⟩ := Unl.out I I' q; exact ⟨σ', H2, I2, q⟩
  | cont => obtain ⟨σ', H', I', q⟩ := q; obtain ⟨H2, I2, q⟩ := Unl.out I I' q; exact ⟨σ', H2, I2, q⟩
  | ret u => obtain ⟨v, σ', H', I', r, q⟩ := q; obtain ⟨H2, I2, q⟩ := Unl.out I I' q; exact ⟨v, σ', H2, I2, r, q⟩
theorem pe_unl {e : Expr} {t : TE} (h : PE X e t) : PE X e (tUnlE t) := by
  refine ⟨fun pins s σ H Q I hw => ?_⟩
  refine thn (h.run pins s σ H _ I hw) fun v s1 ⟨x, H1, I1, r, q⟩ => ?_
  obtain ⟨H2, I2, q⟩ := Unl.out I I1 q
  exact ⟨x, H2, I2, r, q⟩
/-- d.items(): the dict is locked from here on -/
def iItemsL (td : TE) : TI := fun σ H R => td σ H fun x H1 => ∃ d kvs, x = .ref d ∧ H1 d = some (.dK kvs) ∧ ∀ o, R (Iti d o kvs) (upd H1 d (.frz o (.dK kvs)))
theorem pi_itemsL {elts : List Expr} {kk : Nat} {tpos apos cpos : Pos} {e : Expr} {td : TE} (he : PE X e td) (mono : ∀ σ H (Q Q' : VK), (∀ v H', Q v H' → Q' v H') → td σ H Q → td σ H Q')
    (hbase : attributeBase e "items" X.env (eval e X.env) = eval e X.env) (hline : (apos.endLine == cpos.line) = true) :
    PI X (.Tuple elts kk tpos) (.Call (.Attribute e "items" apos) [] [] cpos) (iItemsL td) := by
  -- e, then the lock, seen as one
  have he2 : PE X e (fun σ H Q => td σ H fun x H1 => ∃ d kvs, x = .ref d ∧ H1 d = some (.dK kvs) ∧ ∀ o, Q (.ref d) (upd H1 d (.frz o (.dK kvs)))) := ⟨fun pins s σ H Q I hw =>
    thn (he.run pins s σ H _ I hw) fun u s1 ⟨x, H1, I1, rx, d, kvs, ex, hd, q⟩ => by
      subst ex
      obtain ⟨od, I2⟩ := I1.lock hd True.intro
      exact ⟨.ref d, _, I2, rx, q od⟩⟩
  refine PI.of (pi_items (elts := elts) (kk := kk) (tpos := tpos) he2 hbase hline) fun σ H R q => ?_
  refine mono σ H _ _ (fun x H1 h => ?_) q
  obtain ⟨d, kvs, ex, hd, q⟩ := h
  exact ⟨d, kvs, ex, hd, fun o => ⟨d, o, kvs, rfl, upd_same, q o⟩⟩
end

/-! ### walks -/
/-- the walk w, as the iterator J does it, from the heap H0 on -/
def WOk (K : PySem.W.Frag) (w : Wk) (J : It) (H0 : Hp) (ι0 : List Addr) : Prop :=
  ∀ i S H ι, Sim K S H ι → Nx K H0 H ι0 ι → w.live S →
    (∀ d : Dv, w.items[i]? = some d → J.go i H ∧ ∀ x H', J.yld i H x H' → Sim K S H' ι ∧ Nx K H H' ι ι ∧ Rl K H' ι d x) ∧ (w.items[i]? = none → J.stop i H)
section
variable {K : PySem.W.Frag} {S : Sto} {H : Hp} {ι : List Addr} {d : Dv} {v : V} {xs : List Dv} {vs : List V} {a : Addr} {n : Nat}
theorem wok_tup (h : IsT K H a vs) (r : Rls K H ι xs vs) : WOk K ⟨xs, none, none⟩ (Itt K a) H ι := by
  intro i S H1 ι1 s nx _
  have h1 := h.mono nx
  have r1 := r.mono nx
  refine ⟨fun d hd => ?_, fun hn => ⟨vs, h1.sq, ?_⟩⟩
  · obtain ⟨v, hv, rv⟩ := r1.get hd
    refine ⟨⟨vs, v, h1.sq, hv⟩, fun x H' y => ?_⟩
    obtain ⟨e, y⟩ := y
    subst e
    have e2 := y vs h1.sq
    rw [hv] at e2
    cases e2
    exact ⟨s, Nx.refl K _ _, rv⟩
  · rw [← r1.length]
    exact List.getElem?_eq_none_iff.mp hn
theorem wok_rol (h : IsR K H a vs) (r : Rls K H ι xs vs) : WOk K ⟨xs, none, none⟩ (Itl K a) H ι := by
  intro i S H1 ι1 s nx _
  have h1 := h.mn nx.mn
  have r1 := r.mono nx
  refine ⟨fun d hd => ?_, fun hn => ⟨vs, h1.sq, ?_⟩⟩
  · obtain ⟨v, hv, rv⟩ := r1.get hd
    refine ⟨⟨vs, v, h1.sq, hv⟩, fun x H' y => ?_⟩
    obtain ⟨e, y⟩ := y
    subst e
    have e2 := y vs h1.sq
    rw [hv] at e2
    cases e2
    exact ⟨s, Nx.refl K _ _, rv⟩
  · rw [← r1.length]
    exact List.getElem?_eq_none_iff.mp hn
theorem wok_lst (e : ι[n]? = some a) : WOk K ⟨xs, some (n, .lst xs), none⟩ (Itl K a) H ι := by
  intro i S H1 ι1 s nx lv
  have lv : S[n]? = some (.lst xs) := lv
  have e1 := nx.ix e
  have hs : seqv S (.ref n) = some xs := by
    simp only [seqv]
    rw [lv]
  obtain ⟨a', vs, ea, r1, q⟩ := seqv_at (d := .ref n) s (.ref e1) hs
  cases ea
  have q : SqL K H1 a vs := by
    rcases q with ⟨q, _⟩ | ⟨_, _, q⟩
    · exact q
    · cases q
  refine ⟨fun d hd => ?_, fun hn => ⟨vs, q, ?_⟩⟩
  · obtain ⟨v, hv, rv⟩ := r1.get hd
    refine ⟨⟨vs, v, q, hv⟩, fun x H' y => ?_⟩
    obtain ⟨e, y⟩ := y
    subst e
    have e2 := y vs q
    rw [hv] at e2
    cases e2
    exact ⟨s, Nx.refl K _ _, rv⟩
  · rw [← r1.length]
    exact List.getElem?_eq_none_iff.mp hn
theorem wok_rng {lo : Int} {m : Nat} : WOk K ⟨rangeL lo m, none, none⟩ (Itr lo m) H ι := by
  intro i S H1 ι1 s nx _
  refine ⟨fun d hd => ?_, fun hn => ?_⟩
  · unfold rangeL at hd
    rw [List.getElem?_map] at hd
    cases hr : (List.range m)[i]? with
    | none => rw [hr] at hd; cases hd
    | some j =>
      rw [hr] at hd
      cases hd
      have hj : i < m := by
        have := (List.getElem?_eq_some_iff.mp hr).1
        rwa [List.length_range] at this
      rw [List.getElem?_range hj] at hr
      cases hr
      refine ⟨hj, fun x H' y => ?_⟩
      obtain ⟨e, y⟩ := y
      subst e y
      exact ⟨s, Nx.refl K _ _, .int _⟩
  · have := List.getElem?_eq_none_iff.mp hn
    unfold rangeL at this
    rw [List.length_map, List.length_range] at this
    exact this
theorem wok_str {x : Str} : WOk K ⟨x.cps.toList.map fun c => .str ⟨#[c]⟩, none, none⟩ (Its x) H ι := by
  intro i S H1 ι1 s nx _
  refine ⟨fun d hd => ?_, fun hn => ?_⟩
  · rw [List.getElem?_map] at hd
    cases hr : x.cps.toList[i]? with
    | none => rw [hr] at hd; cases hd
    | some c =>
      rw [hr] at hd
      cases hd
      have hc : x.cps[i]? = some c := by simpa using hr
      have hi : i < x.cps.size := (Array.getElem?_eq_some_iff.mp hc).1
      refine ⟨hi, fun y H' q => ?_⟩
      obtain ⟨e, c', hc', e'⟩ := q
      rw [hc] at hc'
      cases hc'
      subst e e'
      exact ⟨s, Nx.refl K _ _, .str _⟩
  · have := List.getElem?_eq_none_iff.mp hn
    show x.cps.size ≤ i
    simpa using this
theorem RlP.get : ∀ {kvs : List (Key × Dv)} {zs : List (Key × V)} {i : Nat} {p : Key × Dv}, RlP K H ι kvs zs → kvs[i]? = some p → ∃ v, zs[i]? = some (p.1, v) ∧ Rl K H ι p.2 v
  | _, _, _, _, .nil, h => by simp at h
  | p :: _, q :: _, 0, _, .cons r _, h => by
    simp at h
    subst h
    refine ⟨q.2, ?_, r.2⟩
    show some q = _
    rw [r.1]
  | _ :: _, _ :: _, i + 1, p, .cons _ t, h => by
    obtain ⟨v, h1, h2⟩ := RlP.get (i := i) t (by simpa using h)
    exact ⟨v, by simpa using h1, h2⟩
theorem wok_items {kvs : List (Key × Dv)} {zs : List (Key × V)} {o : Obj} (e : ι[n]? = some a) (h : H a = some (.frz o (.dK zs))) : WOk K ⟨kvs.map fun kv => .tup [kD kv.1, kv.2], some (n, .fd kvs), some (n, kvs)⟩ (Iti a o zs) H ι := by
  intro i S H1 ι1 s nx lv
  have lv : S[n]? = some (.fd kvs) := lv
  have e1 := nx.ix e
  have h1 := nx.frz _ _ _ h
  obtain ⟨ws, o', h2, r⟩ := s.ok n _ a lv e1
  rw [h1] at h2
  cases h2
  refine ⟨fun d hd => ?_, fun hn => ⟨h1, ?_⟩⟩
  · rw [List.getElem?_map] at hd
    cases hr : kvs[i]? with
    | none => rw [hr] at hd; cases hd
    | some p =>
      rw [hr] at hd
      cases hd
      obtain ⟨v, hv, rv⟩ := RlP.get r hr
      refine ⟨⟨h1, (List.getElem?_eq_some_iff.mp hv).1⟩, fun x H' y => ?_⟩
      obtain ⟨T, k, v', hk, ex, hT, eH⟩ := y
      rw [hv] at hk
      cases hk
      subst ex eH
      have n2 : Nx K H1 (upd H1 T (.tup [kV p.1, v])) ι1 ι1 := Nx.newTup hT _
      exact ⟨s.newTup hT _, n2, .tup (.inl upd_same) (.cons (kD_ok _) (.cons (rv.mono n2) .nil))⟩
  · have := List.getElem?_eq_none_iff.mp hn
    rw [List.length_map] at this
    rw [RlP.length r]
    exact this
end

/-! ### readings of targets, walks, statements -/
def semG (K : PySem.W.Frag) (W : WX) (vs : List Nat) (f : Dv → Envr → Sto → Res Envr) : TG := fun v σ H Q =>
  ∃ d ρ S ι, Sim K S H ι ∧ RlE K H ι ρ σ ∧ Rl K H ι d v ∧ (f d ρ S).sat (fun ρ' S' => ∀ (σ' : L2.St) H' ι', Sim K S' H' ι' → Nx K H H' ι ι' → RlE K H' ι' ρ' σ' → (∀ i : Nat, i ∉ vs → σ'[i]? = σ[i]?) → σ'.length = σ.length → Q σ' H') (Bx K H ι W σ)
def LkOk (w : Wk) (H : Hp) (ι' : List Addr) : Prop := ∀ n kvs d, w.lock = some (n, kvs) → ι'[n]? = some d → w.src = some (n, .fd kvs) ∧ ∀ o u, H d ≠ some (.frz o u)
def semI (K : PySem.W.Frag) (W : WX) (f : Envr → Sto → Res Wk) : TI := fun σ H R =>
  ∃ ρ S ι, Sim K S H ι ∧ RlE K H ι ρ σ ∧ (f ρ S).sat (fun w S' => ∀ J H' ι', Sim K (w.lockS S') H' ι' → Nx K H H' ι ι' → WOk K w J H' ι' → LkOk w H ι' → (∀ n kvs, w.lock = some (n, kvs) → n < ι'.length) → R J H') (Bx K H ι W σ)
/-- what is wanted of an outcome -/
def OkO (K : PySem.W.Frag) (H : Hp) (ι : List Addr) (W : WX) (D : Ends) : Out → Prop
  | .nx ρ' S' => ∀ σ' H' ι', Sim K S' H' ι' → Nx K H H' ι ι' → RlE K H' ι' ρ' σ' → D.nx σ' H'
  | .rt d S' => ∀ v H' ι', Sim K S' H' ι' → Nx K H H' ι ι' → Rl K H' ι' d v → D.rt v H'
  | .bk ρ' S' => ∀ σ' H' ι', Sim K S' H' ι' → Nx K H H' ι ι' → RlE K H' ι' ρ' σ' → D.bk σ' H'
  | .ct ρ' S' => ∀ σ' H' ι', Sim K S' H' ι' → Nx K H H' ι ι' → RlE K H' ι' ρ' σ' → D.ct σ' H'
  | .rs x ρ' S' => ∀ cls dx σ' H' ι', Sim K S' H' ι' → Nx K H H' ι ι' → RlE K H' ι' ρ' σ' → XOk K x cls dx H' ι' → W cls dx σ' H'
  | .no => False
def semS (K : PySem.W.Frag) (W : WX) (f : Envr → Sto → Out) : TS := fun D σ H => ∃ ρ S ι, Sim K S H ι ∧ RlE K H ι ρ σ ∧ OkO K H ι W D (f ρ S)

section
variable {K : PySem.W.Frag} {S : Sto} {H H1 H' : Hp} {ι ι1 ι' : List Addr} {W : WX} {σ : L2.St} {ρ : Envr} {α β γ δ : Type} {R : Rel α β} {D : Ends}
theorem OkO.mono {o : Out} (n : Nx K H H1 ι ι1) (h : OkO K H ι W D o) : OkO K H1 ι1 W D o := by
  cases o with
  | nx ρ S => exact fun σ' H' ι' s n' r => h σ' H' ι' s (n.trans n') r
  | rt d S => exact fun σ' H' ι' s n' r => h σ' H' ι' s (n.trans n') r
  | bk ρ S => exact fun σ' H' ι' s n' r => h σ' H' ι' s (n.trans n') r
  | ct ρ S => exact fun σ' H' ι' s n' r => h σ' H' ι' s (n.trans n') r
  | rs x ρ S => exact fun c d σ' H' ι' s n' r x => h c d σ' H' ι' s (n.trans n') r x
  | no => exact h
/-- an expression first, then the rest of the statement -/
theorem out_bind {T : β → Hp → Prop} {fa : Envr → Sto → Res α} {kf : α → Sto → Out} (s : Sim K S H ι) (e : RlE K H ι ρ σ) (h : OkO K H ι W D ((fa ρ S).out ρ kf))
    (hk : ∀ d v S1 H1 ι1, Sim K S1 H1 ι1 → RlE K H1 ι1 ρ σ → Nx K H H1 ι ι1 → R H1 ι1 d v → OkO K H1 ι1 W D (kf d S1) → T v H1) : sem R K W fa σ H T := by
  refine ⟨ρ, S, ι, s, e, ?_⟩
  cases hf : fa ρ S with
  | ok d S1 =>
    rw [hf] at h
    exact fun v H1 ι1 s1 n1 r1 => hk d v S1 H1 ι1 s1 (e.mono n1) n1 r1 (OkO.mono n1 h)
  | rs x S1 =>
    rw [hf] at h
    exact fun cls dx H1 ι1 s1 n1 x1 => h cls dx σ H1 ι1 s1 n1 (e.mono n1) x1
  | no => rw [hf] at h; exact h

/-! ### slots -/
theorem wipe_at : ∀ (vs : List Nat) (σ : L2.St) (i : Nat), (L2.wipe σ vs)[i]? = if i ∈ vs ∧ i < σ.length then some none else σ[i]?
  | [], σ, i => by simp [L2.wipe]
  | v :: vs, σ, i => by
    unfold L2.wipe
    by_cases hv : v = i
    · subst hv
      by_cases hl : v < σ.length
      · rw [List.getElem?_set_self (by rw [L2.wipe_length]; exact hl), if_pos ⟨List.mem_cons_self, hl⟩]
      · rw [if_neg (fun h => hl h.2), List.getElem?_eq_none (by rw [List.length_set, L2.wipe_length]; omega), List.getElem?_eq_none (by omega)]
    · rw [List.getElem?_set_ne hv, wipe_at vs σ i]
      have : (i ∈ v :: vs ∧ i < σ.length) ↔ (i ∈ vs ∧ i < σ.length) := by
        simp only [List.mem_cons]
        constructor
        · rintro ⟨h | h, h2⟩
          · exact absurd h.symm hv
          · exact ⟨h, h2⟩
        · rintro ⟨h, h2⟩
          exact ⟨.inr h, h2⟩
      simp only [this]
theorem wipe_same {vs : List Nat} {σ σ' : L2.St} (h : ∀ i : Nat, i ∉ vs → σ'[i]? = σ[i]?) (hl : σ'.length = σ.length) : L2.wipe σ' vs = L2.wipe σ vs := by
  refine List.ext_getElem? fun i => ?_
  rw [wipe_at, wipe_at, hl]
  by_cases hi : i ∈ vs
  · by_cases h2 : i < σ.length
    · rw [if_pos ⟨hi, h2⟩, if_pos ⟨hi, h2⟩]
    · rw [if_neg (fun z => h2 z.2), if_neg (fun z => h2 z.2), List.getElem?_eq_none (by omega), List.getElem?_eq_none (by omega)]
  · rw [if_neg (fun z => hi z.1), if_neg (fun z => hi z.1), h i hi]
theorem wipe_wipe (vs : List Nat) (σ : L2.St) : L2.wipe (L2.wipe σ vs) vs = L2.wipe σ vs := by
  refine List.ext_getElem? fun i => ?_
  rw [wipe_at, wipe_at, L2.wipe_length]
  by_cases hi : i ∈ vs ∧ i < σ.length
  · rw [if_pos hi, if_pos hi]
  · rw [if_neg hi, if_neg hi]
theorem vwipe_length : ∀ (vs : List Nat) (ρ : Envr), (wipe ρ vs).length = ρ.length
  | [], _ => rfl
  | v :: vs, ρ => by unfold wipe; rw [List.length_set, vwipe_length vs ρ]
theorem vwipe_at : ∀ (vs : List Nat) (ρ : Envr) (i : Nat), (wipe ρ vs)[i]? = if i ∈ vs ∧ i < ρ.length then some none else ρ[i]?
  | [], ρ, i => by simp [wipe]
  | v :: vs, ρ, i => by
    unfold wipe
    by_cases hv : v = i
    · subst hv
      by_cases hl : v < ρ.length
      · rw [List.getElem?_set_self (by rw [vwipe_length]; exact hl), if_pos ⟨List.mem_cons_self, hl⟩]
      · rw [if_neg (fun h => hl h.2), List.getElem?_eq_none (by rw [List.length_set, vwipe_length]; omega), List.getElem?_eq_none (by omega)]
    · rw [List.getElem?_set_ne hv, vwipe_at vs ρ i]
      have : (i ∈ v :: vs ∧ i < ρ.length) ↔ (i ∈ vs ∧ i < ρ.length) := by
        simp only [List.mem_cons]
        constructor
        · rintro ⟨h | h, h2⟩
          · exact absurd h.symm hv
          · exact ⟨h, h2⟩
        · rintro ⟨h, h2⟩
          exact ⟨.inr h, h2⟩
      simp only [this]
theorem RlE.wipe (vs : List Nat) (e : RlE K H ι ρ σ) : RlE K H ι (Vm.wipe ρ vs) (L2.wipe σ vs) := by
  refine ⟨by rw [vwipe_length, L2.wipe_length]; exact e.1, fun i d h => ?_⟩
  rw [vwipe_at] at h
  by_cases hi : i ∈ vs ∧ i < ρ.length
  · rw [if_pos hi] at h; cases h
  · rw [if_neg hi] at h
    obtain ⟨v, h1, h2⟩ := e.2 i d h
    refine ⟨v, ?_, h2⟩
    rw [wipe_at, if_neg (by rw [← e.1]; exact hi)]
    exact h1
theorem RlE.set {d : Dv} {v : V} (e : RlE K H ι ρ σ) (r : Rl K H ι d v) (i : Nat) : RlE K H ι (ρ.set i (some d)) (σ.set i (some v)) := by
  refine ⟨by rw [List.length_set, List.length_set]; exact e.1, fun j d' h => ?_⟩
  by_cases hj : i = j
  · subst hj
    by_cases hl : i < ρ.length
    · rw [List.getElem?_set_self hl] at h
      cases h
      exact ⟨v, List.getElem?_set_self (by rw [← e.1]; exact hl), r⟩
    · rw [List.getElem?_eq_none (by rw [List.length_set]; omega)] at h; cases h
  · rw [List.getElem?_set_ne hj] at h
    obtain ⟨v', h1, h2⟩ := e.2 j d' h
    exact ⟨v', by rw [List.getElem?_set_ne hj]; exact h1, h2⟩

/-! ### a list that is no cell yet -/
theorem Sim.beside {D : Addr} {vs : List V} {o : HO} (s : Sim K S H ι) (hD : H D = some (.lst vs)) (nD : D ∉ ι) : Sim K S (upd H D o) ι := by
  have kp : Mn H (upd H D o) ι ι := ⟨⟨[], by simp⟩, fun b ys q => by
    rw [upd_ne (fun e => by subst e; rw [hD] at q; cases q)]
    exact q, fun b ob ys q => by
    rw [upd_ne (fun e => by subst e; rw [hD] at q; cases q)]
    exact q⟩
  refine ⟨s.len, fun n c a h1 h2 => ?_, s.inj⟩
  exact (s.ok n c a h1 h2).mn kp fun v q => by rw [upd_ne (fun e => nD (by rw [← e]; exact List.mem_of_getElem? h2))]; exact q
theorem Sim.adopt {D : Addr} {acc : List Dv} {vs : List V} (s : Sim K S H ι) (hD : H D = some (.lst vs)) (nD : D ∉ ι) (r : Rls K H ι acc vs) : Sim K (S ++ [.lst acc]) H (ι ++ [D]) := by
  have mn : Mn H H ι (ι ++ [D]) := ⟨⟨[D], rfl⟩, fun _ _ h => h, fun _ _ _ h => h⟩
  refine ⟨by simp [s.len], fun n d b h1 h2 => ?_, fun m n d e b h1 h2 w1 w2 h3 h4 => ?_⟩
  · rcases getElem?_snoc h1 with h1 | ⟨e1, e2⟩
    · have hn : n < ι.length := by rw [s.len]; exact (List.getElem?_eq_some_iff.mp h1).1
      rw [List.getElem?_append_left hn] at h2
      exact (s.ok n d b h1 h2).mn mn fun _ q => q
    · subst e2
      rw [e1, ← s.len, List.getElem?_append_right (Nat.le_refl _), Nat.sub_self] at h2
      have : b = D := by simpa using h2.symm
      subst this
      exact ⟨vs, hD, r.mn mn⟩
  · have out : ∀ {n : Nat} {c : Cel}, ι[n]? = some D → False := fun {n c} h => nD (List.mem_of_getElem? h)
    rcases getElem?_snoc h3 with h3 | ⟨e3, e3'⟩
    · rcases getElem?_snoc h4 with h4 | ⟨e4, e4'⟩
      · have l1 : m < S.length := by rw [← s.len]; exact (List.getElem?_eq_some_iff.mp h3).1
        have l2 : n < S.length := by rw [← s.len]; exact (List.getElem?_eq_some_iff.mp h4).1
        rw [List.getElem?_append_left l1] at h1
        rw [List.getElem?_append_left l2] at h2
        exact s.inj m n d e b h1 h2 w1 w2 h3 h4
      · rw [e4'] at h3
        exact (out (c := d) h3).elim
    · rcases getElem?_snoc h4 with h4 | ⟨e4, e4'⟩
      · rw [e3'] at h4
        exact (out (c := d) h4).elim
      · rw [e3, e4]
/-- the lock is taken off -/
theorem Sim.unlock {n : Nat} {d : Addr} {kvs : List (Key × Dv)} (s : Sim K S H ι) (hc : S[n]? = some (.fd kvs)) (hd : ι[n]? = some d) : ∃ od zs, H d = some (.frz od (.dK zs)) ∧ Sim K (S.set n (.dct kvs)) (upd H d (.dK zs)) ι ∧ Mn H (upd H d (.dK zs)) ι ι := by
  obtain ⟨zs, od, e, r⟩ := s.ok n _ d hc hd
  have mn : Mn H (upd H d (.dK zs)) ι ι := ⟨⟨[], by simp⟩, fun b ys q => by
    rw [upd_ne (fun z => by subst z; rw [e] at q; cases q)]
    exact q, fun b ob ys q => by
    rw [upd_ne (fun z => by subst z; rw [e] at q; cases q)]
    exact q⟩
  exact ⟨od, zs, e, s.put hc rfl rfl hd ⟨zs, upd_same, Paired.mapP r fun _ _ q => ⟨q.1, q.2.mn mn⟩⟩, mn⟩
/-- .. and what stays over all of it -/
theorem Nx.unlock {H0 : Hp} {ι0 : List Addr} {d : Addr} {zs : List (Key × V)} {od : Obj} (x : Nx K H0 H ι0 ι) (e : H d = some (.frz od (.dK zs))) (m : d ∈ ι) (nf : ∀ o u, H0 d ≠ some (.frz o u)) : Nx K H0 (upd H d (.dK zs)) ι0 ι := by
  refine ⟨x.ext, fun b ys q => ?_, fun b o q nb => ?_, fun b o u q => ?_⟩
  · have q1 := x.tup b ys q
    rw [upd_ne (fun z => by subst z; rw [e] at q1; cases q1)]
    exact q1
  · obtain ⟨q1, q2⟩ := x.fr b o q nb
    exact ⟨by rw [upd_ne (fun z => q2 (by rw [z]; exact m))]; exact q1, q2⟩
  · rw [upd_ne (fun z => nf o u (by rw [← z]; exact q))]
    exact x.frz b o u q

/-- the end of a walk: what is wanted behind the unlocking -/
theorem unl_of {w : Wk} {H0 : Hp} {ι0 : List Addr} {P : Hp → Prop} (s : Sim K S H ι) (x : Nx K H0 H ι0 ι) (lk : ∀ n kvs d, w.lock = some (n, kvs) → ι[n]? = some d → ∀ o u, H0 d ≠ some (.frz o u)) (hl : w.locked S)
    (h : ∀ H', Sim K (w.freeS S) H' ι → Nx K H0 H' ι0 ι → Mn H H' ι ι → (∀ b xs, H b = some (.lst xs) → H' b = some (.lst xs)) → P H') : Unl H0 P H := by
  unfold Wk.locked at hl
  unfold Wk.freeS at h
  cases hw : w.lock with
  | none =>
    rw [hw] at h
    exact .inl (h H s x ⟨⟨[], by simp⟩, fun _ _ q => q, fun _ _ _ q => q⟩ fun _ _ q => q)
  | some p =>
    obtain ⟨n, kvs⟩ := p
    rw [hw] at h hl
    obtain ⟨d, hd, _⟩ := s.at hl
    obtain ⟨od, zs, e, s2, mn⟩ := s.unlock hl hd
    have nf := lk n kvs d hw hd
    refine .inr ⟨d, od, .dK zs, e, nf, h _ s2 (Nx.unlock x e (List.mem_of_getElem? hd) nf) mn fun b xs q => ?_⟩
    rw [upd_ne (fun z => by subst z; rw [e] at q; cases q)]
    exact q
theorem lk_later {w : Wk} {H0 : Hp} (lk : LkOk w H0 ι1) (x : Nx K H1 H ι1 ι) (hn : ∀ n kvs, w.lock = some (n, kvs) → n < ι1.length) : ∀ n kvs d, w.lock = some (n, kvs) → ι[n]? = some d → ∀ o u, H0 d ≠ some (.frz o u) := fun n kvs d hw hd => by
  have hlt := hn n kvs hw
  have e := x.ix (List.getElem?_eq_getElem hlt)
  rw [hd] at e
  cases e
  exact (lk n kvs _ hw (List.getElem?_eq_getElem hlt)).2
end

/-! ### the for loop -/
section
variable {K : PySem.W.Frag} {S : Sto} {H0 H1 : Hp} {ι0 ι1 : List Addr} {W : WX} {σ : L2.St} {ρ : Envr} {D : Ends}
theorem for_ok {w : Wk} {J : It} {g : TG} {tb : TS} {turn : Envr → Dv → Sto → Out} (s1 : Sim K S H1 ι1) (x1 : Nx K H0 H1 ι0 ι1) (e1 : RlE K H1 ι1 ρ σ) (wok : WOk K w J H1 ι1) (lk : LkOk w H0 ι1) (hn : ∀ n kvs, w.lock = some (n, kvs) → n < ι1.length)
    (h : OkO K H0 ι0 W D ((forL w turn w.items ρ S).free w))
    (body : ∀ (N : L2.St → Hp → Prop) d v ρ S σ H ι, Sim K S H ι → RlE K H ι ρ σ → Rl K H ι d v → OkO K H ι W { nx := N, rt := fun v => Unl H0 (D.rt v), bk := fun σ' => Unl H0 (D.nx σ'), ct := N } (turn ρ d S) →
      g v σ H fun σ2 H2 => tb { nx := N, ct := N, bk := fun σ' => Unl H0 (D.nx σ'), rt := fun v => Unl H0 (D.rt v) } σ2 H2) :
    ∃ Wm : Nat → Nat → L2.St → Hp → Prop, (∃ m, Wm 0 m σ H1) ∧ ∀ i m σ H, Wm i m σ H →
      (J.stop i H ∧ Unl H0 (D.nx σ) H) ∨ (J.go i H ∧ ∃ N : L2.St → Hp → Prop, (∀ σ' H', N σ' H' → ∃ m', m' < m ∧ Wm (i + 1) m' σ' H') ∧
        ∀ x H', J.yld i H x H' → g x σ H' fun σ2 H2 => tb { nx := N, ct := N, bk := fun σ' => Unl H0 (D.nx σ'), rt := fun v => Unl H0 (D.rt v) } σ2 H2) := by
  let Pv : Nat → L2.St → Hp → Prop := fun i σ H => ∃ S ι ρ, Sim K S H ι ∧ Nx K H1 H ι1 ι ∧ RlE K H ι ρ σ ∧ OkO K H0 ι0 W D ((forL w turn (w.items.drop i) ρ S).free w)
  refine ⟨fun i m σ H => m = w.items.length - i ∧ i ≤ w.items.length ∧ Pv i σ H, ⟨w.items.length, by simp, Nat.zero_le _, S, ι1, ρ, s1, Nx.refl K _ _, e1, by simpa using h⟩, ?_⟩
  rintro i m σ H ⟨rfl, hi, S, ι, ρ, s, nx, e, h⟩
  have x0 : Nx K H0 H ι0 ι := x1.trans nx
  have lk' := lk_later lk nx hn
  by_cases hlt : i < w.items.length
  · have hd : w.items.drop i = w.items[i] :: w.items.drop (i + 1) := List.drop_eq_getElem_cons hlt
    rw [hd] at h
    by_cases hlv : w.live S
    · rw [forL, if_pos hlv] at h
      obtain ⟨wgo, _⟩ := wok i S H ι s nx hlv
      obtain ⟨go, yld⟩ := wgo w.items[i] (List.getElem?_eq_getElem hlt)
      refine .inr ⟨go, Pv (i + 1), fun σ' H' p' => ⟨w.items.length - (i + 1), by omega, rfl, hlt, p'⟩, fun x H' y => ?_⟩
      obtain ⟨s', n', r'⟩ := yld x H' y
      refine body (Pv (i + 1)) w.items[i] x ρ S σ H' ι s' (e.mono n') r' ?_
      have x0' := x0.trans n'
      have nx' := nx.trans n'
      cases ht : turn ρ w.items[i] S with
      | nx ρ' S' =>
        rw [ht] at h
        exact fun σ' H'' ι' s'' n'' e'' => ⟨S', ι', ρ', s'', nx'.trans n'', e'', h⟩
      | ct ρ' S' =>
        rw [ht] at h
        exact fun σ' H'' ι' s'' n'' e'' => ⟨S', ι', ρ', s'', nx'.trans n'', e'', h⟩
      | bk ρ' S' =>
        rw [ht] at h
        simp only [Out.free] at h
        split at h
        · rename_i hl
          exact fun σ' H'' ι' s'' n'' e'' => unl_of s'' (x0'.trans n'') (lk_later lk (nx'.trans n'') hn) hl fun H3 s3 x3 m3 _ => h σ' H3 ι' s3 x3 ⟨e''.1, fun i d q => let ⟨v, q1, q2⟩ := e''.2 i d q; ⟨v, q1, q2.mn m3⟩⟩
        · exact h.elim
      | rt d S' =>
        rw [ht] at h
        simp only [Out.free] at h
        split at h
        · rename_i hl
          exact fun v H'' ι' s'' n'' r'' => unl_of s'' (x0'.trans n'') (lk_later lk (nx'.trans n'') hn) hl fun H3 s3 x3 m3 _ => h v H3 ι' s3 x3 (r''.mn m3)
        · exact h.elim
      | rs x ρ' S' =>
        rw [ht] at h
        exact fun cls dx σ' H'' ι' s'' n'' e'' xo => h cls dx σ' H'' ι' s'' (x0'.trans n'') e'' xo
      | no => rw [ht] at h; exact h
    · rw [forL, if_neg hlv] at h
      exact h.elim
  · have ei : i = w.items.length := by omega
    have hd : w.items.drop i = [] := List.drop_eq_nil_of_le (by omega)
    rw [hd] at h
    by_cases hlv : w.live S
    · rw [forL, if_pos hlv] at h
      obtain ⟨_, wstop⟩ := wok i S H ι s nx hlv
      refine .inl ⟨wstop (List.getElem?_eq_none (by omega)), ?_⟩
      simp only [Out.free] at h
      split at h
      · rename_i hl
        exact unl_of s x0 lk' hl fun H3 s3 x3 m3 _ => h σ H3 ι s3 x3 ⟨e.1, fun i d q => let ⟨v, q1, q2⟩ := e.2 i d q; ⟨v, q1, q2.mn m3⟩⟩
      · exact h.elim
    · rw [forL, if_neg hlv] at h
      exact h.elim
end

/-! ### the list comprehension -/
section
variable {K : PySem.W.Frag} {S : Sto} {H0 H1 : Hp} {ι0 ι1 : List Addr} {W : WX} {σ : L2.St} {ρ : Envr}
theorem lc_ok {w : Wk} {J : It} {g : TG} {tt : TT} {te : TE} {vs : List Nat} {turn : Dv → Sto → Res (Option Dv)} {Q : VK} {B : Exn → Sto → Prop} (s1 : Sim K S H1 ι1) (x1 : Nx K H0 H1 ι0 ι1) (wok : WOk K w J H1 ι1) (lk : LkOk w H0 ι1) (hn : ∀ n kvs, w.lock = some (n, kvs) → n < ι1.length)
    (h : ((lcL w turn w.items [] S).calm.bind fun acc S6 => new (.lst acc) (w.freeS S6)).sat (Ok1 K H0 ι0 Q) B)
    (body : ∀ (Nm : Hp → Prop) (D : Addr) d v S H ι, Sim K S H ι → Nx K H1 H ι1 ι → Rl K H ι d v →
      (turn d S).sat (fun o S' => ∀ H' ι', Sim K S' H' ι' → Nx K H H' ι ι' → match o with
        | some y => ∀ u, Rl K H' ι' y u → ∃ acc, H' D = some (.lst acc) ∧ acc.length < sizeLine ∧ Nm (upd H' D (.lst (acc ++ [u])))
        | none => Nm H') (fun _ _ => False) →
      g v (L2.wipe σ vs) H fun σ2 H2 => L2.wipe σ2 vs = L2.wipe σ vs ∧ tt σ2 H2 fun b H3 => if b = true then te σ2 H3 fun y H4 => ∃ acc, H4 D = some (.lst acc) ∧ acc.length < sizeLine ∧ Nm (upd H4 D (.lst (acc ++ [y]))) else Nm H3) :
    ∀ D, H1 D = none → ∃ Wm : Nat → Nat → Hp → Prop, (∃ m, Wm 0 m (upd H1 D (.lst []))) ∧ ∀ i m H, Wm i m H → (J.stop i H ∧ Unl H0 (Q (.ref D)) H) ∨ (J.go i H ∧ ∃ Nm : Hp → Prop, (∀ H', Nm H' → ∃ m', m' < m ∧ Wm (i + 1) m' H') ∧
      ∀ x H', J.yld i H x H' → g x (L2.wipe σ vs) H' fun σ2 H2 => L2.wipe σ2 vs = L2.wipe σ vs ∧ tt σ2 H2 fun b H3 => if b = true then te σ2 H3 fun y H4 => ∃ acc, H4 D = some (.lst acc) ∧ acc.length < sizeLine ∧ Nm (upd H4 D (.lst (acc ++ [y]))) else Nm H3) := by
  intro D hD
  have h : (lcL w turn w.items [] S).sat (fun acc S6 => (new (.lst acc) (w.freeS S6)).sat (Ok1 K H0 ι0 Q) B) (fun _ _ => False) := by
    cases hq : lcL w turn w.items [] S with
    | ok a S' => rw [hq] at h; exact h
    | rs x S' => rw [hq] at h; exact h
    | no => rw [hq] at h; exact h
  let Pv : Nat → Hp → Prop := fun i H => ∃ S ι acc vs', Sim K S H ι ∧ Nx K H1 H ι1 ι ∧ D ∉ ι ∧ H D = some (.lst vs') ∧ Rls K H ι acc vs' ∧
    (lcL w turn (w.items.drop i) acc S).sat (fun acc S6 => (new (.lst acc) (w.freeS S6)).sat (Ok1 K H0 ι0 Q) B) (fun _ _ => False)
  have n1 : Nx K H1 (upd H1 D (.lst [])) ι1 ι1 := ⟨⟨[], by simp⟩, fun b ys q => keep_new hD _ b _ q, fun b o q nb => ⟨keep_new hD _ b _ q, nb⟩, fun b o u q => keep_new hD _ b _ q⟩
  refine ⟨fun i m H => m = w.items.length - i ∧ i ≤ w.items.length ∧ Pv i H, ⟨w.items.length, by simp, Nat.zero_le _, S, ι1, [], [], s1.kept n1 (keep_new hD _), n1, s1.notin hD, upd_same, .nil, by simpa using h⟩, ?_⟩
  rintro i m H ⟨rfl, hi, S, ι, acc, vs', s, nx, nD, eD, r, h⟩
  have x0 : Nx K H0 H ι0 ι := x1.trans nx
  have lk' := lk_later lk nx hn
  by_cases hlt : i < w.items.length
  · have hd : w.items.drop i = w.items[i] :: w.items.drop (i + 1) := List.drop_eq_getElem_cons hlt
    rw [hd] at h
    by_cases hlv : w.live S ∧ acc.length < LIM
    · rw [lcL, if_pos hlv] at h
      obtain ⟨wgo, _⟩ := wok i S H ι s nx hlv.1
      obtain ⟨go, yld⟩ := wgo w.items[i] (List.getElem?_eq_getElem hlt)
      refine .inr ⟨go, Pv (i + 1), fun H' p' => ⟨w.items.length - (i + 1), by omega, rfl, hlt, p'⟩, fun x H' y => ?_⟩
      obtain ⟨s', n', r'⟩ := yld x H' y
      have nx' := nx.trans n'
      refine body (Pv (i + 1)) D w.items[i] x S H' ι s' nx' r' (Res.sat_mono (Res.sat_bind.mp h) (fun o S' ho H'' ι' s'' n'' => ?_) fun _ _ z => z)
      -- the new list is still where it was
      obtain ⟨e1, q1⟩ := n'.fr D _ eD nD
      obtain ⟨e2, q2⟩ := n''.fr D _ e1 q1
      have r2 : Rls K H'' ι' acc vs' := (r.mono n').mono n''
      have nx2 := nx'.trans n''
      cases o with
      | none => exact ⟨S', ι', acc, vs', s'', nx2, q2, e2, r2, ho⟩
      | some y =>
        intro u ru
        have hl : vs'.length < sizeLine := by rw [← r2.length, lim_eq]; exact hlv.2
        refine ⟨vs', e2, hl, S', ι', acc ++ [y], vs' ++ [u], s''.beside e2 q2, ?_, q2, upd_same, ?_, ho⟩
        · have hDn : ∀ b o, H1 b = some o → b ≠ D := fun b o q z => by rw [z, hD] at q; cases q
          refine ⟨nx2.ext, fun b ys q => ?_, fun b o q nb => ?_, fun b o u q => ?_⟩
          · rw [upd_ne (hDn b _ q)]; exact nx2.tup b ys q
          · obtain ⟨g1, g2⟩ := nx2.fr b o q nb
            exact ⟨by rw [upd_ne (hDn b _ q)]; exact g1, g2⟩
          · rw [upd_ne (hDn b _ q)]; exact nx2.frz b o u q
        · have mn : Mn H'' (upd H'' D (.lst (vs' ++ [u]))) ι' ι' := ⟨⟨[], by simp⟩, fun b ys q => by
            rw [upd_ne (fun z => by subst z; rw [e2] at q; cases q)]
            exact q, fun b ob ys q => by
            rw [upd_ne (fun z => by subst z; rw [e2] at q; cases q)]
            exact q⟩
          exact (r2.append (.cons ru .nil)).mn mn
    · rw [lcL, if_neg hlv] at h
      exact h.elim
  · have ei : i = w.items.length := by omega
    have hd : w.items.drop i = [] := List.drop_eq_nil_of_le (by omega)
    rw [hd] at h
    by_cases hlv : w.live S
    · rw [lcL, if_pos hlv] at h
      obtain ⟨_, wstop⟩ := wok i S H ι s nx hlv
      refine .inl ⟨wstop (List.getElem?_eq_none (by omega)), ?_⟩
      have hlk : w.locked S := by
        unfold Wk.locked
        cases hw : w.lock with
        | none => trivial
        | some p =>
          obtain ⟨n, kvs⟩ := p
          have hlt := hn n kvs hw
          have hs := (lk n kvs _ hw (List.getElem?_eq_getElem hlt)).1
          unfold Wk.live at hlv
          rw [hs] at hlv
          exact hlv
      refine unl_of s x0 lk' hlk fun H3 s3 x3 m3 hk => ?_
      have e3 := hk D _ eD
      refine h (.ref D) H3 (ι ++ [D]) (s3.adopt e3 nD (r.mn m3)) ?_ (.ref ?_)
      · refine ⟨let ⟨l, e⟩ := x3.ext; ⟨l ++ [D], by rw [e, List.append_assoc]⟩, x3.tup, fun b o q nb => ?_, x3.frz⟩
        obtain ⟨g1, g2⟩ := x3.fr b o q nb
        refine ⟨g1, fun mb => ?_⟩
        rcases List.mem_append.mp mb with mb | mb
        · exact g2 mb
        · have eb : b = D := by simpa using mb
          subst eb
          have q1 := (x1.fr b o q nb).1
          rw [hD] at q1
          cases q1
      · have : (w.freeS S).length = ι.length := s3.len.symm
        rw [this, List.getElem?_append_right (Nat.le_refl _), Nat.sub_self]
        rfl
    · rw [lcL, if_neg hlv] at h
      exact h.elim
end
end Vm

set_option Elab.async false
set_option linter.all false
set_option maxRecDepth 100000
set_option maxHeartbeats 4000000
/-! VmF: that a code term is the text, and what it means: expressions. -/
namespace Vm
open PySem PySem.Spec L2

/-! ### looks at the text -/
def notStar : Expr → Bool
  | .Starred _ _ => false
  | _ => true
def plainT : Expr → Bool
  | .UnaryOp .Not _ _ => false
  | .BoolOp _ _ _ => false
  | .IfExp _ _ _ _ => false
  | .Compare _ _ _ _ => false
  | _ => true
def noComp : Expr → Bool
  | .ListComp _ _ _ _ => false
  | .SetComp _ _ _ _ => false
  | .DictComp _ _ _ _ _ => false
  | _ => true
def noSlice : Expr → Bool
  | .Slice _ _ _ _ => false
  | _ => true
def noCall0 : Expr → Bool
  | .Call (.Name _ _) [] [] _ => false
  | _ => true
def noSet : Expr → Bool
  | .Set _ _ _ => false
  | _ => true
def vis (sc : Scope) (x : Str) : Bool :=
  match sc.names.lookup x with
  | some .local => true
  | some .cell => true
  | some .free => true
  | _ => false
def glb (sc : Scope) (x : Str) : Bool := decide (sc.names.lookup x = some .globalImplicit) && decide (x ≠ "__debug__") && decide (x ≠ "__name__")
def cstIs : Dv → Const → Bool
  | .non, .none => true
  | .bl b, .bool c => b == c
  | .int i, .int j => decide (i = j)
  | .str x, .str y => decide (x = y)
  | _, _ => false
def btys : List (String × Str) := [("bool", "bool"), ("int", "int"), ("str", "str"), ("tuple", "tuple"), ("list", "list"), ("dict", "dict")]
def gslots : Gc → List Nat
  | .nm i => [i]
  | .tup gs => gslotss gs
  | .ix _ _ => []
where gslotss : Gs → List Nat
  | .nil => []
  | .cons g r => gslots g ++ gslotss r

section
variable (N : List Str) (nm : List Str)
mutual
def ckE : Ec → Scope → Expr → Bool
  | .cst d, sc, e => match e with
    | .Constant c _ _ => cstIs d c
    | _ => false
  | .var i, sc, e => match e with
    | .Name x _ => decide (N[i]? = some x) && vis sc x && !(x == ("__debug__" : Str)) && !(x == ("__classdict__" : Str))
    | _ => false
  | .bty t, sc, e => match e with
    | .Name x _ => glb sc x && btys.contains (t, x)
    | _ => false
  | .gl x, sc, e => match e with
    | .Name y _ => glb sc y && decide (x = y)
    | _ => false
  | .bin o a b, sc, e => match e with
    | .BinOp l o' r _ => decide (o = o') && ckE a sc l && ckE b sc r
    | _ => false
  | .neg a, sc, e => match e with
    | .UnaryOp .USub l _ => ckE a sc l
    | _ => false
  | .cmp o a b, sc, e => match e with
    | .Compare l [o'] [r] _ => decide (o = o') && ckE a sc l && ckE b sc r && !behindInMarks o r
    | _ => false
  | .chn o1 o2 a b c, sc, e => match e with
    | .Compare l [p1, p2] [r1, r2] _ => decide (o1 = p1) && decide (o2 = p2) && ckE a sc l && ckE b sc r1 && ckE c sc r2 && !behindInMarks o1 r1 && !behindInMarks o2 r2
    | _ => false
  | .bo o es, sc, e => match e with
    | .BoolOp o' vs _ => decide (o = o') && ckEs es sc vs
    | _ => false
  | .nt a, sc, e => match e with
    | .UnaryOp .Not l _ => ckE a sc l
    | _ => false
  | .tup es, sc, e => match e with
    | .Tuple vs _ _ => ckEs es sc vs
    | _ => false
  | .lst es, sc, e => match e with
    | .List vs _ => ckEs es sc vs
    | _ => false
  | .dct ps, sc, e => match e with
    | .Dict ks vs _ => ckPs ps sc ks vs && decide (ks.length ≤ 15)
    | _ => false
  | .call f es, sc, e => match e with
    | .Call (.Name x _) vs [] _ => decide (nm[f]? = some x) && glb sc x && ckEs es sc vs && !vs.isEmpty
    | _ => false
  | .blt b es, sc, e => match e with
    | .Call (.Name x _) vs [] _ => decide (bn b = x) && glb sc x && ckEs es sc vs && !vs.isEmpty
    | _ => false
  | .mth m a es, sc, e => match e with
    | .Call (.Attribute o n p) vs [] q => decide (mN m = n) && ckE a sc o && ckEs es sc vs && !vs.isEmpty && decide (vs.length < 29) && noCall0 o && (p.endLine == q.line)
    | _ => false
  | .ix a b, sc, e => match e with
    | .Subscript l r _ => ckE a sc l && ckE b sc r && noSlice r
    | _ => false
  | .sl a lo hi, sc, e => match e with
    | .Subscript l (.Slice lo' hi' none _) _ => ckE a sc l && ckPo lo sc lo' && ckPo hi sc hi'
    | _ => false
  | .lc own g it ifs el, sc, e => match e with
    | .ListComp elt [⟨tg, iter, tests, 0⟩] scope _ => blkC N sc scope own && ckI it sc tg iter && ckG g (relS scope sc) scope tg && ckO ifs (relS scope sc) tests && ckE el (relS scope sc) elt && noSet iter
        && (gslots g).all fun i => (own.map (·.2)).contains i
    | _ => false
def ckEs : Es → Scope → List Expr → Bool
  | .nil, _, l => l.isEmpty
  | .cons a r, sc, l => match l with
    | e :: es => ckE a sc e && notStar e && ckEs r sc es
    | [] => false
def ckPs : Ps → Scope → List (Option Expr) → List Expr → Bool
  | .nil, _, ks, vs => ks.isEmpty && vs.isEmpty
  | .cons k v r, sc, ks, vs => match ks, vs with
    | some a :: ks, b :: vs => ckE k sc a && ckE v sc b && ckPs r sc ks vs
    | _, _ => false
def ckPo : Po → Scope → Option Expr → Bool
  | .none, _, e => match e with
    | none => true
    | _ => false
  | .one a, sc, e => match e with
    | some e => ckE a sc e
    | none => false
def ckO : Oc → Scope → List Expr → Bool
  | .none, _, l => l.isEmpty
  | .one t, sc, l => match l with
    | [e] => ckT t sc e
    | _ => false
def ckT : Tc → Scope → Expr → Bool
  | .cmp o a b, sc, e => match e with
    | .Compare l [o'] [r] _ => decide (o = o') && ckE a sc l && ckE b sc r && !behindInMarks o r
    | _ => false
  | .chn o1 o2 a b c, sc, e => match e with
    | .Compare l [p1, p2] [r1, r2] _ => decide (o1 = p1) && decide (o2 = p2) && ckE a sc l && ckE b sc r1 && ckE c sc r2 && !behindInMarks o1 r1 && !behindInMarks o2 r2
    | _ => false
  | .bo o ts, sc, e => match e with
    | .BoolOp o' vs _ => decide (o = o') && ckTs ts sc vs
    | _ => false
  | .nt t, sc, e => match e with
    | .UnaryOp .Not l _ => ckT t sc l
    | _ => false
  | .tr a, sc, e => ckE a sc e && plainT e
def ckTs : Ts → Scope → List Expr → Bool
  | .nil, _, l => l.isEmpty
  | .cons t r, sc, l => match l with
    | e :: es => ckT t sc e && ckTs r sc es
    | [] => false
def ckG : Gc → Scope → Scope → Expr → Bool
  | .nm i, _, raw, e => match e with
    | .Name x _ => decide (N[i]? = some x) && (decide (raw.names.lookup x = some .local) || decide (raw.names.lookup x = some .cell))
    | _ => false
  | .tup gs, sc, raw, e => match e with
    | .Tuple es _ _ => ckGs gs sc raw es
    | _ => false
  | .ix a b, sc, _, e => match e with
    | .Subscript l r _ => ckE a sc l && ckE b sc r && noSlice r
    | _ => false
def ckGs : Gs → Scope → Scope → List Expr → Bool
  | .nil, _, _, l => l.isEmpty
  | .cons g r, sc, raw, l => match l with
    | e :: es => ckG g sc raw e && notStar e && ckGs r sc raw es
    | [] => false
def ckI : Ic → Scope → Expr → Expr → Bool
  | .e a, sc, _, e => ckE a sc e
  | .rng es, sc, _, e => match e with
    | .Call (.Name x _) vs [] _ => decide (x = "range") && glb sc x && ckEs es sc vs && (vs.length == 1 || vs.length == 2)
    | _ => false
  | .items a, sc, tg, e => match tg, e with
    | .Tuple _ _ _, .Call (.Attribute o n p) [] [] q => decide (n = "items") && ckE a sc o && noCall0 o && (p.endLine == q.line)
    | _, _ => false
end
end

/-! ### the looks' meanings -/
section
variable {env : Env} {e : Expr} {es : List Expr}
theorem starEach_cons (h : notStar e = true) : starEach (e :: es) env = (false, eval e env) :: starEach es env := by cases e <;> first | rfl | cases h
theorem assignEach_cons (h : notStar e = true) : assignEach (e :: es) env = (false, assign e env) :: assignEach es env := by cases e <;> first | rfl | cases h
theorem isTrue_of (h : plainT e = true) (whole : Sem Value) : isTrue e env whole = (do let v ← whole; standAt e.pos; holding [v] (truthy v)) := by
  cases e with
  | UnaryOp o a p => cases o <;> first | rfl | cases h
  | _ => first | rfl | cases h
theorem swaps_of (h : noComp e = true) (t : Option Expr) (l : Nat) : swapsWith e t l env = pure false := by cases e <;> first | rfl | cases h
theorem sub_of (h : noSlice e = true) (o i : Value) : subscripted e false o i = operate [o, i] (getItem o i) := by cases e <;> first | rfl | cases h
theorem set_of (h : noSet e = true) (x : Value) : foldedSetIterable e env x = pure x := by cases e <;> first | rfl | cases h
theorem base_of (h : noCall0 e = true) (m : Str) : attributeBase e m env (eval e env) = eval e env := by
  cases e with
  | Call f args kws p =>
    cases f with
    | Name x q =>
      cases args with
      | nil =>
        cases kws with
        | nil => cases h
        | cons _ _ => rfl
      | cons _ _ => rfl
    | _ => rfl
  | _ => rfl
theorem backTo_plain (pos : Pos) : ∀ {es : List Expr} {env : Env}, es.all notStar = true → backTo pos (starEach es env) = es.map fun e => (false, eval e env)
  | [], _, _ => rfl
  | e :: es, env, h => by
    rw [List.all_cons, Bool.and_eq_true] at h
    rw [starEach_cons h.1]
    show (false, eval e env) :: backTo pos (starEach es env) = _
    rw [backTo_plain pos h.2]
    rfl
theorem noStar_any (pos : Pos) (h : es.all notStar = true) : (backTo pos (starEach es env)).any (·.1) = false := by
  rw [backTo_plain pos h]
  induction es with
  | nil => rfl
  | cons e es ih =>
    rw [List.all_cons, Bool.and_eq_true] at h
    rw [List.map_cons, List.any_cons, ih h.2]
    rfl
theorem noStar_all (pos : Pos) (h : es.all notStar = true) : (backTo pos (starEach es env)).all (fun x => !x.1) = true := by
  rw [backTo_plain pos h]
  induction es with
  | nil => rfl
  | cons e es ih =>
    rw [List.all_cons, Bool.and_eq_true] at h
    rw [List.map_cons, List.all_cons, ih h.2]
    rfl
theorem vis_ok {sc : Scope} {x : Str} (h : vis sc x = true) : Vis sc x := by
  unfold vis at h
  split at h
  · exact .inl (by assumption)
  · exact .inr (.inl (by assumption))
  · exact .inr (.inr (by assumption))
  · cases h
theorem glb_ok {sc : Scope} {x : Str} (h : glb sc x = true) : sc.names.lookup x = some .globalImplicit ∧ (x == ("__debug__" : Str)) = false ∧ x ≠ "__name__" := by
  unfold glb at h
  simp only [Bool.and_eq_true, decide_eq_true_eq] at h
  exact ⟨h.1.1, beq_eq_false_iff_ne.mpr h.1.2, h.2⟩
end
theorem ckEs_star {N nm : List Str} : ∀ {es : Es} {sc : Scope} {l : List Expr}, ckEs N nm es sc l = true → l.all notStar = true
  | .nil, _, l, h => by
    unfold ckEs at h
    rw [List.isEmpty_iff] at h
    subst h
    rfl
  | .cons a r, sc, l, h => by
    unfold ckEs at h
    split at h
    · simp only [Bool.and_eq_true] at h
      rw [List.all_cons, h.1.2, ckEs_star h.2]
      rfl
    · cases h
end Vm

set_option Elab.async false
set_option linter.all false
set_option maxRecDepth 100000
set_option maxHeartbeats 8000000
/-! VmG: what a code term means is what the text does: expressions. -/
namespace Vm
open PySem PySem.Spec L2

/-- what a def promises: its run -/
def spR (K : PySem.W.Frag) (cl : Nat → List Dv → Sto → Res Dv) (i np : Nat) : Sp := fun vs H Q E => ∃ S ι ds, Sim K S H ι ∧ Rls K H ι ds vs ∧ ds.length = np ∧
  (cl i ds S).sat (Ok1 K H ι Q) (fun x S' => ∀ cls dx H' ι', Sim K S' H' ι' → Nx K H H' ι ι' → XOk K x cls dx H' ι' → E cls dx H')
def bnames : List Str := ["abs", "len", "int", "str", "sorted", "tuple", "list", "dict", "isinstance", "bool", "range"]
/-- what is called, what the module's names hold -/
structure FE (tb : List Fn) (nm : List Str) (gv : Str → Option Dv) (cl : Nat → List Dv → Sto → Res Dv) (k : Nat) (X : Cx) : Prop where
  call : ∀ (i : Nat) (x : Str), nm[i]? = some x → ∃ fn f fd ps, tb[i]? = some fn ∧ FnOk X.prog X.w X.K X.mg X.base (L2.CX X.prog X.w) k f fd ps (spR X.K cl i fn.np) ∧ X.mg x = some (.ref f) ∧ PySem.W.keepIn X.K (.ref f) = true ∧ Binds X.K fd ps []
  np : ∀ (i : Nat) (ds : List Dv) (S : Sto) (fn : Fn), tb[i]? = some fn → ds.length ≠ fn.np → cl i ds S = .no
  glob : ∀ x d, gv x = some d → ∃ v u, X.mg x = some u ∧ RelV v u ∧ ∀ H ι, Rl X.K H ι d v
  blt : ∀ x ∈ bnames, X.mg x = none
structure CO (N : List Str) (sc raw : Scope) (W : WX) (k : Nat) (X : Cx) : Prop where
  hN : X.N = N
  nd : N.Nodup
  hsc : X.env.scope = sc
  room : Room k X.A
  calm : X.calm = true
  tk : Takes X W
  loc : ∀ x, raw.names.lookup x = some .local → sc.names.lookup x = some .local
  cel : ∀ x, raw.names.lookup x = some .cell → sc.names.lookup x = some .cell ∧ X.fn x = true
  own : PassesOwn (model X.prog X.w) X.A X.env X.xe

theorem CO.u1 {N : List Str} {sc raw : Scope} {W : WX} {k : Nat} {X : Cx} (c : CO N sc raw W k X) : X.A.units + 1 < cLine := hu_of c.room
theorem CO.u64 {N : List Str} {sc raw : Scope} {W : WX} {k : Nat} {X : Cx} (c : CO N sc raw W k X) : X.A.units + 64 < cLine := c.room.units
theorem CO.gl {N : List Str} {sc raw : Scope} {W : WX} {k : Nat} {X : Cx} (c : CO N sc raw W k X) {x : Str} (h : sc.names.lookup x = some .globalImplicit) : Gl X x := by
  show X.env.scope.names.lookup x = _
  rw [c.hsc]
  exact h
theorem FE.blk {tb : List Fn} {nm : List Str} {gv : Str → Option Dv} {cl : Nat → List Dv → Sto → Res Dv} {k : Nat} {X : Cx} (f : FE tb nm gv cl k X) (s : Shared) (H : Hp) (scope : Scope) (ce : Env) (fp : List Addr) : FE tb nm gv cl k (X.blk s H scope ce fp) :=
  ⟨f.call, f.np, f.glob, f.blt⟩
theorem CO.blk {N : List Str} {sc raw : Scope} {W : WX} {k : Nat} {X : Cx} (c : CO N sc raw W k X) (s : Shared) (H : Hp) (scope : Scope) (C : Addr) (cl : List (Str × Addr)) (fp : List Addr) :
    CO N (relS scope sc) scope WN k (X.blk s H scope (compEnvC scope cl C X.env) fp) :=
  ⟨c.hN, c.nd, by rw [← c.hsc]; rfl, c.room, c.calm, fun _ _ x => by obtain ⟨_, _, _, _, _, _, _, _, _, _, _, _, _, _, _, _, z⟩ := x; exact z.elim,
    fun x h => lookup_relS_keep (by decide) h, fun x h => ⟨lookup_relS_keep (by decide) h, by show (scope.names.lookup x == some NameKind.cell) = true; rw [h]; decide⟩, PassesOwn.never⟩

/-! ### rules in the form that is wanted here -/
section
variable {X : Cx}
theorem pe_callV {f : Value} {r : List V → Hp → VK → Prop} {x : Str} {p pos : Pos} {e : Expr} {es : List Expr} {t : TA} (hc : CallR X f r) (hg : Gl X x) (hm : X.mg x = none) (hv : bootBuiltins x = some f) (hf : (∃ id, f = .builtin id) ∨ ∃ T, f = .type T)
    (ha : PA X (e :: es) t) (hn : x ≠ "__name__") (hdb : (x == ("__debug__" : Str)) = false) (hs : (e :: es).all notStar = true) : PE X (.Call (.Name x p) (e :: es) [] pos) (tCB r t) := by
  rw [List.all_cons, Bool.and_eq_true] at hs
  rcases hf with ⟨id, rfl⟩ | ⟨T, rfl⟩
  · exact pe_callB hc hg hm hv ha hn hdb (starEach_cons hs.1) (noStar_any pos hs.2)
  · exact pe_callTy hc hg hm hv ha hn hdb (starEach_cons hs.1) (noStar_any pos hs.2)
theorem bv_kind (b : Blt) : (∃ id, bv b = .builtin id) ∨ ∃ T, bv b = .type T := by
  cases b <;> first | exact .inl ⟨_, rfl⟩ | exact .inr ⟨_, rfl⟩
theorem bv_boot (b : Blt) : bootBuiltins (bn b) = some (bv b) := by cases b <;> decide +kernel
theorem bn_mem (b : Blt) : bn b ∈ bnames := by cases b <;> decide +kernel
theorem bty_boot {t : String} {x : Str} (h : btys.contains (t, x) = true) : bootBuiltins x = some (.type t) ∧ x ∈ bnames := by
  have h := List.contains_iff_mem.mp h
  simp only [btys, List.mem_cons, List.not_mem_nil, or_false, Prod.mk.injEq] at h
  rcases h with ⟨rfl, rfl⟩ | ⟨rfl, rfl⟩ | ⟨rfl, rfl⟩ | ⟨rfl, rfl⟩ | ⟨rfl, rfl⟩ | ⟨rfl, rfl⟩ <;> exact ⟨by decide +kernel, by decide +kernel⟩
theorem mt_facts (m : Mth) : PlainAttrs (mT m) ∧ Slot (mT m) (mN m) (mI m) ∧ typeOf (.builtin (mI m)) = pure (.type "method_descriptor") := by
  cases m
  · exact ⟨PySem.F.plainAttrs_list, PySem.F.slot_list_append, PySem.F.type_list_append⟩
  · exact ⟨PySem.F.plainAttrs_str, PySem.F.slot_str_join, PySem.F.type_str_join⟩
  · exact ⟨PySem.F.plainAttrs_dict, PySem.F.slot_dict_update, PySem.F.type_dict_update⟩
end

section
variable {K : PySem.W.Frag} {S : Sto} {H H1 H' : Hp} {ι ι1 ι' : List Addr} {W : WX} {σ : L2.St} {ρ : Envr} {Q : VK}
theorem sem_mono {f : Envr → Sto → Res Dv} {Q Q' : VK} (h : sem (Rl K) K W f σ H Q) (m : ∀ v H', Q v H' → Q' v H') : sem (Rl K) K W f σ H Q' := by
  obtain ⟨ρ, S, ι, s, e, h⟩ := h
  exact ⟨ρ, S, ι, s, e, Res.sat_mono h (fun d S' q v H' ι' s' n' r' => m v H' (q v H' ι' s' n' r')) fun _ _ b => b⟩
theorem mty_ok {m : Mth} {d : Dv} {v : V} (s : Sim K S H ι) (r : Rl K H ι d v) (h : mty m d S = true) : tyV K (mT m) v H := by
  unfold mty at h
  split at h
  · split at h
    · rename_i xs hc
      obtain ⟨a, ws, rfl, e, e1, r1⟩ := lst_at s r hc
      exact .inl ⟨rfl, ws, SqL.of e1⟩
    · cases h
  · cases r
    rfl
  · split at h
    · rename_i kvs hc
      obtain ⟨a, zs, rfl, e, e1, r1⟩ := dct_at s r hc
      exact .inr (.inr (.inl ⟨rfl, .inl ⟨zs, e1⟩⟩))
    · cases h
  · cases h
/-- the readings of a display's pairs -/
def trsOf (K : PySem.W.Frag) (W : WX) (cl : Nat → List Dv → Sto → Res Dv) (gv : Str → Option Dv) : Ps → List (TE × TE)
  | .nil => []
  | .cons k v r => (sem (Rl K) K W (ev cl gv k), sem (Rl K) K W (ev cl gv v)) :: trsOf K W cl gv r
variable {cl : Nat → List Dv → Sto → Res Dv} {gv : Str → Option Dv}
theorem trs_ok : ∀ (ps : Ps) {H : Hp} {ι : List Addr} {S : Sto} {Qp : List (V × V) → Hp → Prop}, Sim K S H ι → RlE K H ι ρ σ →
    (evp cl gv ps ρ S).sat (fun kvs S' => ∀ zs H' ι', Sim K S' H' ι' → Nx K H H' ι ι' → RlP K H' ι' kvs zs → Qp (zs.map fun kv => (kV kv.1, kv.2)) H') (Bx K H ι W σ) → tPairs (trsOf K W cl gv ps) σ H Qp
  | .nil, H, ι, S, Qp, s, e, h => by
    rw [evp] at h
    exact h [] H ι s (Nx.refl K H ι) .nil
  | .cons k v r, H, ι, S, Qp, s, e, h => by
    rw [evp] at h
    refine ⟨ρ, S, ι, s, e, Res.sat_mono (Res.sat_bind.mp h) (fun dk S1 h1 x H1 ι1 s1 n1 r1 => ?_) fun _ _ b => b⟩
    refine ⟨ρ, S1, ι1, s1, e.mono n1, Res.sat_mono (Res.sat_bind.mp h1) (fun dv S2 h2 y H2 ι2 s2 n2 r2 => ?_) fun _ _ b => b.mono n1⟩
    have n12 := n1.trans n2
    refine trs_ok r s2 (e.mono n12) (Res.sat_mono (Res.sat_bind.mp h2) (fun kvs S3 h3 zs H3 ι3 s3 n3 rp => ?_) fun _ _ b => b.mono n12)
    split at h3
    · rename_i q hq
      have ek : x = kV q := keyv_ok r1 hq
      subst ek
      exact h3 ((q, y) :: zs) H3 ι3 s3 (n12.trans n3) (.cons ⟨rfl, r2.mono n3⟩ rp)
    · exact h3.elim
end
end Vm

set_option Elab.async false
set_option linter.all false
set_option maxRecDepth 100000
set_option maxHeartbeats 8000000
/-! VmH: what a code term means is what the text does: expressions. -/
namespace Vm
open PySem PySem.Spec L2

section
variable {K : PySem.W.Frag} {S : Sto} {H H1 H' : Hp} {ι ι1 ι' : List Addr} {W : WX} {σ : L2.St} {ρ : Envr} {Q : VK}
theorem bin2 {r : R2} {fa fb : Envr → Sto → Res Dv} {g : Dv → Dv → Sto → Res Dv} (hg : ∀ {S H ι B x y v u}, Sim K S H ι → Rl K H ι x v → Rl K H ι y u → (g x y S).sat (Ok1 K H ι Q) B → r v u H Q)
    (s : Sim K S H ι) (e : RlE K H ι ρ σ) (h : ((fa ρ S).bind fun x S1 => (fb ρ S1).bind fun y S2 => g x y S2).sat (Okg (Rl K) K H ι Q) (Bx K H ι W σ)) : tOp r (sem (Rl K) K W fa) (sem (Rl K) K W fb) σ H Q := by
  refine sem_bind (R := Rl K) s e h fun x v S1 H1 ι1 s1 e1 n1 r1 h1 => ?_
  refine sem_bind (R := Rl K) s1 e1 h1 fun y u S2 H2 ι2 s2 e2 n2 r2 h2 => ?_
  exact hg s2 (r1.mono n2) r2 h2
theorem rC_at (s : Sim K S H ι) {x y : Dv} {v u : V} (rx : Rl K H ι x v) (ry : Rl K H ι y u) {o : CmpOp} {A : Dv → Sto → Prop} {B : Exn → Sto → Prop} (h : (cmpop o x y S).sat A B) (hq : ∀ z S3, A z S3 → ∀ v H3 ι3, Sim K S3 H3 ι3 → Nx K H H3 ι ι3 → Rl K H3 ι3 z v → Q v H3) : rC K o v u H Q :=
  rC_ok s rx ry (B := B) (Res.sat_mono h (fun z S3 a v H3 ι3 s3 n3 r3 => hq z S3 a v H3 ι3 s3 n3 r3) fun _ _ b => b)
theorem chn3 {o o' : CmpOp} {fa fb fc : Envr → Sto → Res Dv} (s : Sim K S H ι) (e : RlE K H ι ρ σ)
    (h : ((fa ρ S).bind fun x S1 => (fb ρ S1).bind fun y S2 => (cmpop o x y S2).bind fun z S3 => match z with
      | .bl true => (fc ρ S3).bind fun u S4 => cmpop o' y u S4
      | .bl false => .ok (.bl false) S3
      | _ => .no).sat (Okg (Rl K) K H ι Q) (Bx K H ι W σ)) : tChain (rC K o) (rC K o') (sem (Rl K) K W fa) (sem (Rl K) K W fb) (sem (Rl K) K W fc) σ H Q := by
  refine sem_bind (R := Rl K) s e h fun x v S1 H1 ι1 s1 e1 n1 r1 h1 => ?_
  refine sem_bind (R := Rl K) s1 e1 h1 fun y u S2 H2 ι2 s2 e2 n2 r2 h2 => ?_
  refine rC_at s2 (r1.mono n2) r2 (Res.sat_bind.mp h2) fun z S3 h3 w H3 ι3 s3 n3 r3 => ?_
  split at h3
  · cases r3
    refine ⟨true, rfl, ?_⟩
    rw [if_pos rfl]
    refine sem_bind (R := Rl K) s3 (e2.mono n3) (sat_move n3 h3) fun q t S4 H4 ι4 s4 e4 n4 r4 h4 => ?_
    exact rC_ok s4 ((r2.mono n3).mono n4) r4 h4
  · cases r3
    refine ⟨false, rfl, ?_⟩
    rw [if_neg (by decide)]
    exact h3 _ _ _ s3 n3 (.bl _)
  · exact h3.elim
/-- a test's value -/
theorem tst2 {r : R2} {fa fb : Envr → Sto → Res Dv} {g : Dv → Dv → Sto → Res Dv} {Q : Bool → Hp → Prop} (hg : ∀ {S H ι B x y v u} {Q : VK}, Sim K S H ι → Rl K H ι x v → Rl K H ι y u → (g x y S).sat (Ok1 K H ι Q) B → r v u H Q)
    (s : Sim K S H ι) (e : RlE K H ι ρ σ) (h : ((fa ρ S).bind fun x S1 => (fb ρ S1).bind fun y S2 => (g x y S2).bind fun z S3 => match z with
      | .bl k => .ok k S3
      | _ => .no).sat (Okg REq K H ι Q) (Bx K H ι W σ)) : tTest (tOp r (sem (Rl K) K W fa) (sem (Rl K) K W fb)) σ H Q := by
  refine sem_bind (R := Rl K) s e h fun x v S1 H1 ι1 s1 e1 n1 r1 h1 => ?_
  refine sem_bind (R := Rl K) s1 e1 h1 fun y u S2 H2 ι2 s2 e2 n2 r2 h2 => ?_
  refine hg (B := Bx K H2 ι2 W σ) s2 (r1.mono n2) r2 (Res.sat_mono (Res.sat_bind.mp h2) (fun z S3 h3 w H3 ι3 s3 n3 r3 => ?_) fun _ _ b => b)
  split at h3
  · cases r3
    exact ⟨_, rfl, h3 _ _ _ s3 n3 rfl⟩
  · exact h3.elim
theorem tchn3 {o o' : CmpOp} {fa fb fc : Envr → Sto → Res Dv} {Q : Bool → Hp → Prop} (s : Sim K S H ι) (e : RlE K H ι ρ σ)
    (h : ((fa ρ S).bind fun x S1 => (fb ρ S1).bind fun y S2 => (cmpop o x y S2).bind fun z S3 => match z with
      | .bl true => (fc ρ S3).bind fun u S4 => (cmpop o' y u S4).bind fun z' S5 => match z' with
        | .bl k => .ok k S5
        | _ => .no
      | .bl false => .ok false S3
      | _ => .no).sat (Okg REq K H ι Q) (Bx K H ι W σ)) : tTest (tChain (rC K o) (rC K o') (sem (Rl K) K W fa) (sem (Rl K) K W fb) (sem (Rl K) K W fc)) σ H Q := by
  refine sem_bind (R := Rl K) s e h fun x v S1 H1 ι1 s1 e1 n1 r1 h1 => ?_
  refine sem_bind (R := Rl K) s1 e1 h1 fun y u S2 H2 ι2 s2 e2 n2 r2 h2 => ?_
  refine rC_at s2 (r1.mono n2) r2 (Res.sat_bind.mp h2) fun z S3 h3 w H3 ι3 s3 n3 r3 => ?_
  split at h3
  · cases r3
    refine ⟨true, rfl, ?_⟩
    rw [if_pos rfl]
    refine sem_bind (R := Rl K) s3 (e2.mono n3) (sat_move n3 h3) fun q t S4 H4 ι4 s4 e4 n4 r4 h4 => ?_
    refine rC_at s4 ((r2.mono n3).mono n4) r4 (Res.sat_bind.mp h4) fun z S5 h5 w H5 ι5 s5 n5 r5 => ?_
    split at h5
    · cases r5
      exact ⟨_, rfl, h5 _ _ _ s5 n5 rfl⟩
    · exact h5.elim
  · cases r3
    refine ⟨false, rfl, ?_⟩
    rw [if_neg (by decide)]
    exact ⟨_, rfl, h3 _ _ _ s3 n3 rfl⟩
  · exact h3.elim
end
def Es.len : Es → Nat
  | .nil => 0
  | .cons _ r => r.len + 1
theorem evs_len {cl : Nat → List Dv → Sto → Res Dv} {gv : Str → Option Dv} : ∀ (es : Es) {ρ : Envr} {S S' : Sto} {xs : List Dv}, evs cl gv es ρ S = .ok xs S' → xs.length = es.len
  | .nil, ρ, S, S', xs, h => by
    rw [evs] at h
    cases h
    rfl
  | .cons a r, ρ, S, S', xs, h => by
    rw [evs] at h
    cases h1 : ev cl gv a ρ S with
    | ok x S1 =>
      rw [h1, Res.bind_ok] at h
      cases h2 : evs cl gv r ρ S1 with
      | ok ys S2 =>
        rw [h2, Res.bind_ok] at h
        cases h
        rw [List.length_cons, evs_len r h2]
        rfl
      | rs x S1 => rw [h2] at h; cases h
      | no => rw [h2] at h; cases h
    | rs x S1 => rw [h1] at h; cases h
    | no => rw [h1] at h; cases h
theorem ckEs_len {N nm : List Str} : ∀ {es : Es} {sc : Scope} {l : List Expr}, ckEs N nm es sc l = true → es.len = l.length
  | .nil, sc, l, h => by
    unfold ckEs at h
    rw [List.isEmpty_iff] at h
    subst h
    rfl
  | .cons a r, sc, l, h => by
    unfold ckEs at h
    split at h
    · simp only [Bool.and_eq_true] at h
      rw [Es.len, ckEs_len h.2]
      rfl
    · cases h
/-- what is known of an outcome is known of what is wanted of it -/
theorem Res.sat_eq {α : Type} {A : α → Sto → Prop} {B : Exn → Sto → Prop} {r : Res α} (h : r.sat A B) : r.sat (fun a S => r = .ok a S ∧ A a S) B := by
  cases r with
  | ok a S => exact ⟨rfl, h⟩
  | rs x S => exact h
  | no => exact h
theorem assignEach_len : ∀ {es : List Expr} {env : Env}, es.all notStar = true → (assignEach es env).length = es.length ∧ (assignEach es env).findIdx? (·.1) = none
  | [], _, _ => ⟨rfl, rfl⟩
  | e :: es, env, h => by
    rw [List.all_cons, Bool.and_eq_true] at h
    rw [assignEach_cons h.1]
    obtain ⟨h1, h2⟩ := assignEach_len (env := env) h.2
    refine ⟨by rw [List.length_cons, h1, List.length_cons], ?_⟩
    rw [List.findIdx?_cons, h2]
    rfl
theorem ckGs_star {N nm : List Str} : ∀ {gs : Gs} {sc raw : Scope} {l : List Expr}, ckGs N nm gs sc raw l = true → l.all notStar = true ∧ gs.len = l.length
  | .nil, _, _, l, h => by
    unfold ckGs at h
    rw [List.isEmpty_iff] at h
    subst h
    exact ⟨rfl, rfl⟩
  | .cons g r, sc, raw, l, h => by
    unfold ckGs at h
    split at h
    · simp only [Bool.and_eq_true] at h
      obtain ⟨h1, h2⟩ := ckGs_star h.2
      exact ⟨by rw [List.all_cons, h.1.2, h1]; rfl, by rw [Gs.len, h2]; rfl⟩
    · cases h
end Vm

set_option Elab.async false
set_option linter.all false
set_option maxRecDepth 100000
set_option maxHeartbeats 8000000
/-! VmI: the soundness of expressions. -/
namespace Vm
open PySem PySem.Spec L2

/-- readings of several targets -/
def semGs (K : PySem.W.Frag) (W : WX) (vs : List Nat) (f : List Dv → Envr → Sto → Res Envr) : TGs := fun us σ H Q =>
  ∃ ds ρ S ι, Sim K S H ι ∧ RlE K H ι ρ σ ∧ Rls K H ι ds us ∧ (f ds ρ S).sat (fun ρ' S' => ∀ (σ' : L2.St) H' ι', Sim K S' H' ι' → Nx K H H' ι ι' → RlE K H' ι' ρ' σ' → (∀ i : Nat, i ∉ vs → σ'[i]? = σ[i]?) → σ'.length = σ.length → Q σ' H') (Bx K H ι W σ)
theorem pe_never {X : Cx} {e : Expr} {W : WX} {f : Envr → Sto → Res Dv} (h : ∀ ρ S, f ρ S = .no) : PE X e (sem (Rl X.K) X.K W f) := ⟨fun pins s σ H Q I q => by
  obtain ⟨ρ, S, ι, _, _, q⟩ := q
  rw [h] at q
  exact q.elim⟩
theorem pw_never {X : Cx} {e : Expr} {W : WX} {f : Envr → Sto → Res Bool} (h : ∀ ρ S, f ρ S = .no) : PW X e (sem REq X.K W f) := ⟨fun w pins s σ H Q I q => by
  obtain ⟨ρ, S, ι, _, _, q⟩ := q
  rw [h] at q
  exact q.elim⟩
theorem Sim.adoptD {K : PySem.W.Frag} {S : Sto} {H : Hp} {ι : List Addr} {c : Cel} {o : HO} {D : Addr} (s : Sim K S H ι) (hD : H D = some (.dK [])) (nD : D ∉ ι) (hc : CelOk K (upd H D o) (ι ++ [D]) c D) : Sim K (S ++ [c]) (upd H D o) (ι ++ [D]) := by
  have mn : Mn H (upd H D o) ι (ι ++ [D]) := ⟨⟨[D], rfl⟩, fun b ys q => by
    rw [upd_ne (fun z => by subst z; rw [hD] at q; cases q)]
    exact q, fun b ob ys q => by
    rw [upd_ne (fun z => by subst z; rw [hD] at q; cases q)]
    exact q⟩
  have out : ∀ {n : Nat}, ι[n]? = some D → False := fun h => nD (List.mem_of_getElem? h)
  refine ⟨by simp [s.len], fun n d b h1 h2 => ?_, fun m n d e b h1 h2 w1 w2 h3 h4 => ?_⟩
  · rcases getElem?_snoc h1 with h1 | ⟨e1, e2⟩
    · have hn : n < ι.length := by rw [s.len]; exact (List.getElem?_eq_some_iff.mp h1).1
      rw [List.getElem?_append_left hn] at h2
      refine (s.ok n d b h1 h2).mn mn fun v q => ?_
      rw [upd_ne (fun z => out (by rw [← z]; exact h2))]
      exact q
    · subst e2
      rw [e1, ← s.len, List.getElem?_append_right (Nat.le_refl _), Nat.sub_self] at h2
      have : b = D := by simpa using h2.symm
      subst this
      exact hc
  · rcases getElem?_snoc h3 with h3 | ⟨e3, e3'⟩
    · rcases getElem?_snoc h4 with h4 | ⟨e4, e4'⟩
      · have l1 : m < S.length := by rw [← s.len]; exact (List.getElem?_eq_some_iff.mp h3).1
        have l2 : n < S.length := by rw [← s.len]; exact (List.getElem?_eq_some_iff.mp h4).1
        rw [List.getElem?_append_left l1] at h1
        rw [List.getElem?_append_left l2] at h2
        exact s.inj m n d e b h1 h2 w1 w2 h3 h4
      · rw [e4'] at h3
        exact (out h3).elim
    · rcases getElem?_snoc h4 with h4 | ⟨e4, e4'⟩
      · rw [e3'] at h4
        exact (out h4).elim
      · rw [e3, e4]
theorem sub_assign {X : Cx} {o i : Expr} {pos : Pos} (h : noSlice i = true) : ∀ v, assign (.Subscript o i pos) X.env v = (do
      let ov ← holding [v] (eval o X.env)
      let iv ← holding [v, ov] (eval i X.env)
      standAt pos
      holding [v, ov, iv] (setItem ov iv v)
      release [v, ov, iv] []) := by
  intro v
  cases i <;> first | rfl | cases h

section
variable {cl : Nat → List Dv → Sto → Res Dv} {gv : Str → Option Dv} {K : PySem.W.Frag} {S : Sto} {H : Hp} {ι : List Addr} {W : WX} {σ : L2.St} {ρ : Envr} {Q : VK}
theorem lc_read {own : List (Str × Nat)} {g : Gc} {it : Ic} {ifs : Oc} {el : Ec} (s : Sim K S H ι) (e : RlE K H ι ρ σ) (h7 : ((gslots g).all fun i => (own.map (·.2)).contains i) = true)
    (q : (ev cl gv (.lc own g it ifs el) ρ S).sat (Okg (Rl K) K H ι Q) (Bx K H ι W σ)) : tUnlE (tLc (semI K W (evi cl gv it)) (semG K WN (gslots g) (asn cl gv g)) (sem REq K WN (evo cl gv ifs)) (sem (Rl K) K WN (ev cl gv el)) (own.map (·.2))) σ H Q := by
  rw [ev] at q
  refine ⟨ρ, S, ι, s, e, Res.sat_mono (Res.sat_bind.mp q) (fun w S1 q1 J H1 ι1 s1 n1 wok lk hn => ?_) fun _ _ b => b⟩
  refine lc_ok s1 n1 wok lk hn q1 fun Nm D d v S2 H2 ι2 s2 n2 r2 ht => ?_
  refine ⟨d, wipe ρ (own.map (·.2)), S2, ι2, s2, ((e.mono n1).mono n2).wipe _, r2, Res.sat_mono (Res.sat_bind.mp ht) (fun ρ' S3 h3 σ' H3 ι3 s3 n3 e3 hfix hlen => ?_) fun _ _ b => b.elim⟩
  refine ⟨?_, ?_⟩
  · rw [wipe_same (fun i hi => hfix i fun hm => hi ?_) hlen, wipe_wipe]
    have := List.all_eq_true.mp h7 i hm
    exact List.contains_iff_mem.mp this
  · refine ⟨ρ', S3, ι3, s3, e3, Res.sat_mono (Res.sat_bind.mp h3) (fun b S4 h4 b' H4 ι4 s4 n4 eb => ?_) fun _ _ b => b.elim⟩
    subst eb
    split
    · rename_i hb
      rw [if_pos hb] at h4
      refine ⟨ρ', S4, ι4, s4, e3.mono n4, Res.sat_mono (Res.sat_bind.mp h4) (fun y S5 h5 u H5 ι5 s5 n5 ru => ?_) fun _ _ b => b.elim⟩
      exact h5 H5 ι5 s5 ((n3.trans n4).trans n5) u ru
    · rename_i hb
      rw [if_neg hb] at h4
      exact h4 H4 ι4 s4 (n3.trans n4)
end

section
variable {tb : List Fn} {nm : List Str} {gv : Str → Option Dv} {cl : Nat → List Dv → Sto → Res Dv} {k : Nat} {N : List Str}
mutual
theorem sE : ∀ (a : Ec) {sc raw : Scope} {W : WX} {X : Cx} {e : Expr}, FE tb nm gv cl k X → CO N sc raw W k X → ckE N nm a sc e = true → PE X e (sem (Rl X.K) X.K W (ev cl gv a))
  | .cst d, sc, raw, W, X, e, f, c, h => by
    unfold ckE at h
    split at h
    · rename_i cc j pos
      have key : ∀ v, (∀ H ι, Rl X.K H ι d v) → PE X (.Constant cc j pos) (tC v) → PE X (.Constant cc j pos) (sem (Rl X.K) X.K W (ev cl gv (.cst d))) := fun v r p => PE.of p fun σ H Q q => by
        obtain ⟨ρ, S, ι, s, e, q⟩ := q
        rw [ev] at q
        exact q v H ι s (Nx.refl _ _ _) (r H ι)
      unfold cstIs at h
      split at h
      · exact key .non (fun _ _ => .non) pe_non
      · rw [beq_iff_eq] at h
        subst h
        exact key _ (fun _ _ => .bl _) pe_bl
      · rw [decide_eq_true_eq] at h
        subst h
        exact key _ (fun _ _ => .int _) pe_int
      · rw [decide_eq_true_eq] at h
        subst h
        exact key _ (fun _ _ => .str _) pe_str
      · cases h
    · cases h
  | .var i, sc, raw, W, X, e, f, c, h => by
    unfold ckE at h
    split at h
    · simp only [Bool.and_eq_true, decide_eq_true_eq, Bool.not_eq_true'] at h
      obtain ⟨⟨⟨h1, h2⟩, h3⟩, h4⟩ := h
      refine PE.of (pe_var (i := i) (by rw [c.hN]; exact h1) (by rw [c.hsc]; exact vis_ok h2) h3 h4) fun σ H Q q => ?_
      obtain ⟨ρ, S, ι, s, e, q⟩ := q
      rw [ev] at q
      split at q
      · rename_i d hd
        obtain ⟨v, h1, h2⟩ := e.2 i d hd
        exact ⟨v, h1, q v H ι s (Nx.refl _ _ _) h2⟩
      · exact q.elim
    · cases h
  | .bty t, sc, raw, W, X, e, f, c, h => by
    unfold ckE at h
    split at h
    · rw [Bool.and_eq_true] at h
      obtain ⟨g1, g2, g3⟩ := glb_ok h.1
      obtain ⟨b1, b2⟩ := bty_boot h.2
      refine PE.of (pe_bltn (v := .ty t) (c.gl g1) (f.blt _ b2) b1 rfl g3 g2) fun σ H Q q => ?_
      obtain ⟨ρ, S, ι, s, e, q⟩ := q
      rw [ev] at q
      exact q _ H ι s (Nx.refl _ _ _) (.ty t)
    · cases h
  | .gl x, sc, raw, W, X, e, f, c, h => by
    unfold ckE at h
    split at h
    · rw [Bool.and_eq_true, decide_eq_true_eq] at h
      obtain ⟨h, h5⟩ := h
      subst h5
      obtain ⟨g1, g2, g3⟩ := glb_ok h
      cases hd : gv x with
      | none => exact pe_never fun ρ S => by rw [ev, hd]
      | some d =>
        obtain ⟨v, u, m1, m2, m3⟩ := f.glob x d hd
        refine PE.of (pe_glob (v := v) (c.gl g1) m1 m2 g2) fun σ H Q q => ?_
        obtain ⟨ρ, S, ι, s, e, q⟩ := q
        rw [ev, hd] at q
        exact q _ H ι s (Nx.refl _ _ _) (m3 H ι)
    · cases h
  | .bin o a b, sc, raw, W, X, e, f, c, h => by
    unfold ckE at h
    split at h
    · simp only [Bool.and_eq_true, decide_eq_true_eq] at h
      obtain ⟨⟨rfl, h1⟩, h2⟩ := h
      refine PE.of (pe_op (op_rB o) (sE a f c h1) (sE b f c h2)) fun σ H Q q => ?_
      obtain ⟨ρ, S, ι, s, e, q⟩ := q
      rw [ev] at q
      exact bin2 (fun s rx ry h => rB_ok s rx ry h) s e q
    · cases h
  | .neg a, sc, raw, W, X, e, f, c, h => by
    unfold ckE at h
    split at h
    · refine PE.of (pe_un un_neg (sE a f c h)) fun σ H Q q => ?_
      obtain ⟨ρ, S, ι, s, e, q⟩ := q
      rw [ev] at q
      refine sem_bind (R := Rl X.K) s e q fun x v S1 H1 ι1 s1 e1 n1 r1 h1 => ?_
      split at h1
      · cases r1
        exact ⟨_, rfl, h1 _ _ _ s1 (Nx.refl _ _ _) (.int _)⟩
      · exact h1.elim
    · cases h
  | .cmp o a b, sc, raw, W, X, e, f, c, h => by
    unfold ckE at h
    split at h
    · simp only [Bool.and_eq_true, decide_eq_true_eq, Bool.not_eq_true'] at h
      obtain ⟨⟨⟨rfl, h1⟩, h2⟩, h3⟩ := h
      refine PE.of (pe_cmpR (op_rC c.u64 o) (sE a f c h1) (sE b f c h2) h3) fun σ H Q q => ?_
      obtain ⟨ρ, S, ι, s, e, q⟩ := q
      rw [ev] at q
      exact bin2 (fun s rx ry h => rC_ok s rx ry h) s e q
    · cases h
  | .chn o1 o2 a b d, sc, raw, W, X, e, f, c, h => by
    unfold ckE at h
    split at h
    · simp only [Bool.and_eq_true, decide_eq_true_eq, Bool.not_eq_true'] at h
      obtain ⟨⟨⟨⟨⟨⟨rfl, rfl⟩, h1⟩, h2⟩, h3⟩, h4⟩, h5⟩ := h
      refine PE.of (pe_chain (op_rC c.u64 o1) (op_rC c.u64 o2) (sE a f c h1) (sE b f c h2) (sE d f c h3) h5) fun σ H Q q => ?_
      obtain ⟨ρ, S, ι, s, e, q⟩ := q
      rw [ev] at q
      exact chn3 s e q
    · cases h
  | .bo o es, sc, raw, W, X, e, f, c, h => by
    unfold ckE at h
    split at h
    · rw [Bool.and_eq_true, decide_eq_true_eq] at h
      obtain ⟨rfl, h⟩ := h
      refine PE.of (sB es o f c h) fun σ H Q q => ?_
      obtain ⟨ρ, S, ι, s, e, q⟩ := q
      rw [ev] at q
      exact ⟨ρ, S, ι, s, e, q⟩
    · cases h
  | .nt a, sc, raw, W, X, e, f, c, h => by
    unfold ckE at h
    split at h
    · refine PE.of (pe_not (sE a f c h)) fun σ H Q q => ?_
      obtain ⟨ρ, S, ι, s, e, q⟩ := q
      rw [ev] at q
      refine sem_bind (R := Rl X.K) s e q fun x v S1 H1 ι1 s1 e1 n1 r1 h1 => ?_
      split at h1
      · cases r1
        exact ⟨_, rfl, h1 _ _ _ s1 (Nx.refl _ _ _) (.bl _)⟩
      · exact h1.elim
    · cases h
  | .tup es, sc, raw, W, X, e, f, c, h => by
    unfold ckE at h
    split at h
    · refine PE.of (pe_tup (sEs es f c h)) fun σ H Q q => ?_
      obtain ⟨ρ, S, ι, s, e, q⟩ := q
      rw [ev] at q
      refine sem_bind (R := Rls X.K) s e q fun xs vs S1 H1 ι1 s1 e1 n1 r1 h1 => ?_
      split at h1
      · rename_i hl
        rw [r1.length] at hl
        exact ⟨hl, Ok1.newT s1 r1 h1⟩
      · exact h1.elim
    · cases h
  | .lst es, sc, raw, W, X, e, f, c, h => by
    unfold ckE at h
    split at h
    · refine PE.of (pe_lst (sEs es f c h)) fun σ H Q q => ?_
      obtain ⟨ρ, S, ι, s, e, q⟩ := q
      rw [ev] at q
      refine sem_bind (R := Rls X.K) s e q fun xs vs S1 H1 ι1 s1 e1 n1 r1 h1 => ?_
      split at h1
      · rename_i hl
        rw [r1.length] at hl
        exact ⟨hl, Ok1.newL s1 r1 h1⟩
      · exact h1.elim
    · cases h
  | .dct ps, sc, raw, W, X, e, f, c, h => by
    unfold ckE at h
    split at h
    · rename_i ks vs pos
      rw [Bool.and_eq_true, decide_eq_true_eq] at h
      obtain ⟨h, h15⟩ := h
      obtain ⟨p1, p2, p3⟩ := sPs ps pos f c h
      by_cases h0 : ks = []
      · subst h0
        have e0 : vs = [] := by
          rw [List.length_nil] at p3
          exact List.length_eq_zero_iff.mp p3.symm
        subst e0
        have ep : ps = .nil := by
          cases ps with
          | nil => rfl
          | cons k v r => unfold ckPs at h; cases h
        subst ep
        refine PE.of pe_dnewK fun σ H Q q => ?_
        obtain ⟨ρ, S, ι, s, e, q⟩ := q
        rw [ev, evp, Res.bind_ok, if_pos (by decide)] at q
        exact Ok1.newD s .nil q
      · refine PE.of (pe_disp p1 p2 p3 h0 h15) fun σ H Q q => ?_
        obtain ⟨ρ, S, ι, s, e, q⟩ := q
        rw [ev] at q
        intro p hp
        have np : p ∉ ι := s.notin hp
        have n0 : Nx X.K H (upd H p (.dK [])) ι ι := ⟨⟨[], by simp⟩, fun b ys q => keep_new hp _ b _ q, fun b o q nb => ⟨keep_new hp _ b _ q, nb⟩, fun b o u q => keep_new hp _ b _ q⟩
        refine trs_ok ps (s.kept n0 (keep_new hp _)) (e.mono n0) (Res.sat_mono (Res.sat_bind.mp q) (fun kvs S1 h1 zs H1 ι1 s1 n1 rp => ?_) fun _ _ b => b.mono n0)
        split at h1
        · rename_i hl
          obtain ⟨e1, q1⟩ := n1.fr p _ upd_same np
          have n01 := n0.trans n1
          have hl2 : zs.length ≤ 15 := by rw [RlP.length rp]; exact hl
          have rm : RlP X.K H1 ι1 (mergeD [] kvs) (mergeK [] zs) := mergeD_ok rp .nil
          have mn : Mn H1 (upd H1 p (.dK (mergeK [] zs))) ι1 (ι1 ++ [p]) := ⟨⟨[p], rfl⟩, fun b ys q => by
            rw [upd_ne (fun z => by subst z; rw [e1] at q; cases q)]
            exact q, fun b ob ys q => by
            rw [upd_ne (fun z => by subst z; rw [e1] at q; cases q)]
            exact q⟩
          refine ⟨e1, zs, rfl, hl2, ?_⟩
          refine h1 (.ref p) _ (ι1 ++ [p]) (Sim.adoptD s1 e1 q1 ⟨mergeK [] zs, upd_same, Paired.mapP rm fun _ _ q => ⟨q.1, q.2.mn mn⟩⟩) ?_ (.ref ?_)
          · refine ⟨let ⟨l, e⟩ := n01.ext; ⟨l ++ [p], by rw [e, List.append_assoc]⟩, fun b ys q => ?_, fun b o q nb => ?_, fun b o u q => ?_⟩
            · rw [upd_ne (ne_of_none q hp)]
              exact n01.tup b ys q
            · obtain ⟨g1, g2⟩ := n01.fr b o q nb
              refine ⟨by rw [upd_ne (ne_of_none q hp)]; exact g1, fun mb => ?_⟩
              rcases List.mem_append.mp mb with mb | mb
              · exact g2 mb
              · have eb : b = p := by simpa using mb
                exact ne_of_none q hp eb
            · rw [upd_ne (ne_of_none q hp)]
              exact n01.frz b o u q
          · rw [← s1.len, List.getElem?_append_right (Nat.le_refl _), Nat.sub_self]
            rfl
        · exact h1.elim
    · cases h
  | .call i es, sc, raw, W, X, e, f, c, h => by
    unfold ckE at h
    split at h
    · rename_i x p vs pos
      simp only [Bool.and_eq_true, decide_eq_true_eq, Bool.not_eq_true'] at h
      obtain ⟨⟨⟨h1, h2⟩, h3⟩, h4⟩ := h
      obtain ⟨g1, g2, g3⟩ := glb_ok h2
      obtain ⟨fn, fa, fd, ps, t1, F, m1, m2, m3⟩ := f.call i x h1
      have hst := ckEs_star h3
      cases vs with
      | nil => cases h4
      | cons e0 es0 =>
        rw [List.all_cons, Bool.and_eq_true] at hst
        refine PE.of (pe_callSD F c.room (c.gl g1) m1 m2 m3 .nil (fun σ => passAt c.tk σ) (sEs es f c h3) g2 (starEach_cons hst.1) (noStar_any pos hst.2)) fun σ H Q q => ?_
        obtain ⟨ρ, S, ι, s, e, q⟩ := q
        rw [ev] at q
        refine sem_bind (R := Rls X.K) s e q fun xs vs S1 H1 ι1 s1 e1 n1 r1 q1 => ?_
        rw [List.append_nil]
        refine ⟨S1, ι1, xs, s1, r1, ?_, q1⟩
        by_cases hl : xs.length = fn.np
        · exact hl
        · rw [f.np i xs S1 fn t1 hl] at q1
          exact q1.elim
    · cases h
  | .blt b es, sc, raw, W, X, e, f, c, h => by
    unfold ckE at h
    split at h
    · rename_i x p vs pos
      simp only [Bool.and_eq_true, decide_eq_true_eq, Bool.not_eq_true'] at h
      obtain ⟨⟨⟨h1, h2⟩, h3⟩, h4⟩ := h
      subst h1
      obtain ⟨g1, g2, g3⟩ := glb_ok h2
      cases vs with
      | nil => cases h4
      | cons e0 es0 =>
        refine PE.of (pe_callV (call_rBl b) (c.gl g1) (f.blt _ (bn_mem b)) (bv_boot b) (bv_kind b) (sEs es f c h3) g3 g2 (ckEs_star h3)) fun σ H Q q => ?_
        obtain ⟨ρ, S, ι, s, e, q⟩ := q
        rw [ev] at q
        refine sem_bind (R := Rls X.K) s e q fun xs vs S1 H1 ι1 s1 e1 n1 r1 q1 => ?_
        exact rBl_ok s1 r1 q1
    · cases h
  | .mth m a es, sc, raw, W, X, e, f, c, h => by
    unfold ckE at h
    split at h
    · rename_i o n p vs pos
      simp only [Bool.and_eq_true, decide_eq_true_eq, Bool.not_eq_true'] at h
      obtain ⟨⟨⟨⟨⟨⟨h1, h2⟩, h3⟩, h4⟩, h5⟩, h6⟩, h7⟩ := h
      subst h1
      have hst := ckEs_star h3
      obtain ⟨t1, t2, t3⟩ := mt_facts m
      cases vs with
      | nil => cases h4
      | cons e0 es0 =>
        have hst2 := hst
        rw [List.all_cons, Bool.and_eq_true] at hst2
        have hfew : ((backTo pos (starEach (e0 :: es0) X.env)).all (fun x => !x.1) && (backToKw pos (keywordEach [] X.env)).all (fun x => x.1.isSome)
      && decide ((e0 :: es0).length + ([] : List Keyword).length + (if ([] : List Keyword).isEmpty then 0 else 1) < 30)) = true := by
          rw [noStar_all pos hst]
          show (true && true && decide (_ + 0 + 0 < 30)) = true
          rw [Bool.true_and, Bool.true_and, decide_eq_true_eq]
          omega
        refine PE.of (pe_bm t1 t2 t3 (mt_rMt m) (sE a f c h2) (sEs es f c h3) (base_of h6 _) hfew h7 (starEach_cons hst2.1) (noStar_any pos hst2.2)) fun σ H Q q => ?_
        obtain ⟨ρ, S, ι, s, e, q⟩ := q
        rw [ev] at q
        refine sem_bind (R := Rl X.K) s e q fun x v S1 H1 ι1 s1 e1 n1 r1 q1 => ?_
        split at q1
        · rename_i hm
          refine ⟨mty_ok s1 r1 hm, ?_⟩
          refine sem_bind (R := Rls X.K) s1 e1 q1 fun xs vs S2 H2 ι2 s2 e2 n2 r2 q2 => ?_
          exact rMt_ok s2 (r1.mono n2) r2 q2
        · exact q1.elim
    · cases h
  | .ix a b, sc, raw, W, X, e, f, c, h => by
    unfold ckE at h
    split at h
    · simp only [Bool.and_eq_true] at h
      obtain ⟨⟨h1, h2⟩, h3⟩ := h
      refine PE.of (pe_ix (ix_any c.u1) (sE a f c h1) (sE b f c h2) (fun o i => sub_of h3 o i)) fun σ H Q q => ?_
      obtain ⟨ρ, S, ι, s, e, q⟩ := q
      rw [ev] at q
      exact bin2 (fun s rx ry h => ixop_ok s rx ry h) s e q
    · cases h
  | .sl a lo hi, sc, raw, W, X, e, f, c, h => by
    unfold ckE at h
    split at h
    · simp only [Bool.and_eq_true] at h
      obtain ⟨⟨h1, h2⟩, h3⟩ := h
      refine PE.of (pe_slice sl_any (sE a f c h1) (sPo lo f c h2) (sPo hi f c h3)) fun σ H Q q => ?_
      obtain ⟨ρ, S, ι, s, e, q⟩ := q
      rw [ev] at q
      refine sem_bind (R := Rl X.K) s e q fun x v S1 H1 ι1 s1 e1 n1 r1 q1 => ?_
      refine sem_bind (R := REq) s1 e1 q1 fun l l' S2 H2 ι2 s2 e2 n2 r2 q2 => ?_
      refine sem_bind (R := REq) s2 e2 q2 fun u u' S3 H3 ι3 s3 e3 n3 r3 q3 => ?_
      subst r2 r3
      exact slop_ok s3 ((r1.mono n2).mono n3) q3
    · cases h
  | .lc own g it ifs el, sc, raw, W, X, e, f, c, h => by
    unfold ckE at h
    split at h
    · rename_i elt tg iter tests scope pos
      simp only [Bool.and_eq_true] at h
      obtain ⟨⟨⟨⟨⟨⟨h1, h2⟩, h3⟩, h4⟩, h5⟩, h6⟩, h7⟩ := h
      have cb := fun (s : Shared) (H : Hp) (C : Addr) (cs : List (Str × Addr)) (fp : List Addr) => c.blk s H scope C cs fp
      have fb := fun (s : Shared) (H : Hp) (C : Addr) (cs : List (Str × Addr)) (fp : List Addr) => f.blk s H scope (compEnvC scope cs C X.env) fp
      refine PE.of (pe_unl (pe_lc (g := semG X.K WN (gslots g) (asn cl gv g)) (tt := sem REq X.K WN (evo cl gv ifs)) (te := sem (Rl X.K) X.K WN (ev cl gv el)) c.calm (by rw [c.hN]; exact c.nd) (sI it f c h2) (by rw [c.hN, c.hsc]; exact blkOk_by h1) (fun s H C cs fp => sG g (fb s H C cs fp) (cb s H C cs fp) h3) (fun s H C cs fp => sO ifs (fb s H C cs fp) (cb s H C cs fp) h4)
        (fun s H C cs fp => sE el (fb s H C cs fp) (cb s H C cs fp) h5) (fun x => set_of h6 x))) fun σ H Q q => ?_
      obtain ⟨ρ, S, ι, s, e, q⟩ := q
      exact lc_read s e h7 q
    · cases h
theorem sB : ∀ (es : Es) (o : BoolOp) {sc raw : Scope} {W : WX} {X : Cx} {l : List Expr} {pos : Pos}, FE tb nm gv cl k X → CO N sc raw W k X → ckEs N nm es sc l = true → PE X (.BoolOp o l pos) (sem (Rl X.K) X.K W (evb cl gv o es))
  | .nil, o, sc, raw, W, X, l, pos, f, c, h => pe_never fun ρ S => by rw [evb]
  | .cons a .nil, o, sc, raw, W, X, l, pos, f, c, h => by
    unfold ckEs at h
    split at h
    · simp only [Bool.and_eq_true] at h
      obtain ⟨⟨h1, h2⟩, h3⟩ := h
      unfold ckEs at h3
      rw [List.isEmpty_iff] at h3
      subst h3
      refine PE.of (pe_one (sE a f c h1)) fun σ H Q q => ?_
      obtain ⟨ρ, S, ι, s, e, q⟩ := q
      rw [evb] at q
      exact ⟨ρ, S, ι, s, e, q⟩
    · cases h
  | .cons a (.cons b r), o, sc, raw, W, X, l, pos, f, c, h => by
    unfold ckEs at h
    split at h
    · rename_i e es
      simp only [Bool.and_eq_true] at h
      obtain ⟨⟨h1, h2⟩, h3⟩ := h
      cases es with
      | nil => unfold ckEs at h3; cases h3
      | cons e2 es2 =>
        cases o with
        | And =>
          refine PE.of (pe_and (sE a f c h1) (sB (.cons b r) .And f c h3)) fun σ H Q q => ?_
          obtain ⟨ρ, S, ι, s, e, q⟩ := q
          simp only [evb] at q
          refine sem_bind (R := Rl X.K) s e q fun x v S1 H1 ι1 s1 e1 n1 r1 h1 => ?_
          split at h1
          · cases r1
            refine ⟨_, rfl, ?_⟩
            split
            · rename_i hb
              rw [if_pos hb] at h1
              exact ⟨ρ, S1, ι1, s1, e1, h1⟩
            · rename_i hb
              rw [if_neg hb] at h1
              exact h1 _ _ _ s1 (Nx.refl _ _ _) (.bl _)
          · exact h1.elim
        | Or =>
          refine PE.of (pe_or (sE a f c h1) (sB (.cons b r) .Or f c h3)) fun σ H Q q => ?_
          obtain ⟨ρ, S, ι, s, e, q⟩ := q
          simp only [evb] at q
          refine sem_bind (R := Rl X.K) s e q fun x v S1 H1 ι1 s1 e1 n1 r1 h1 => ?_
          split at h1
          · cases r1
            refine ⟨_, rfl, ?_⟩
            split
            · rename_i hb
              rw [if_pos hb] at h1
              exact h1 _ _ _ s1 (Nx.refl _ _ _) (.bl _)
            · rename_i hb
              rw [if_neg hb] at h1
              exact ⟨ρ, S1, ι1, s1, e1, h1⟩
          · exact h1.elim
    · cases h
theorem sEs : ∀ (es : Es) {sc raw : Scope} {W : WX} {X : Cx} {l : List Expr}, FE tb nm gv cl k X → CO N sc raw W k X → ckEs N nm es sc l = true → PA X l (sem (Rls X.K) X.K W (evs cl gv es))
  | .nil, sc, raw, W, X, l, f, c, h => by
    unfold ckEs at h
    rw [List.isEmpty_iff] at h
    subst h
    refine PA.of pa_nil fun σ H Q q => ?_
    obtain ⟨ρ, S, ι, s, e, q⟩ := q
    rw [evs] at q
    exact q _ _ _ s (Nx.refl _ _ _) .nil
  | .cons a r, sc, raw, W, X, l, f, c, h => by
    unfold ckEs at h
    split at h
    · simp only [Bool.and_eq_true] at h
      obtain ⟨⟨h1, h2⟩, h3⟩ := h
      refine PA.of (pa_cons (sE a f c h1) (sEs r f c h3) (starEach_cons h2)) fun σ H Q q => ?_
      obtain ⟨ρ, S, ι, s, e, q⟩ := q
      rw [evs] at q
      refine sem_bind (R := Rl X.K) s e q fun x v S1 H1 ι1 s1 e1 n1 r1 q1 => ?_
      refine sem_bind (R := Rls X.K) s1 e1 q1 fun xs vs S2 H2 ι2 s2 e2 n2 r2 q2 => ?_
      exact q2 _ _ _ s2 (Nx.refl _ _ _) (.cons (r1.mono n2) r2)
    · cases h
theorem sPs : ∀ (ps : Ps) (pos : Pos) {sc raw : Scope} {W : WX} {X : Cx} {ks : List (Option Expr)} {vs : List Expr}, FE tb nm gv cl k X → CO N sc raw W k X → ckPs N nm ps sc ks vs = true →
    PPs X pos ks vs (trsOf X.K W cl gv ps) ∧ ks.all (·.isSome) = true ∧ ks.length = vs.length
  | .nil, pos, sc, raw, W, X, ks, vs, f, c, h => by
    unfold ckPs at h
    rw [Bool.and_eq_true, List.isEmpty_iff, List.isEmpty_iff] at h
    obtain ⟨rfl, rfl⟩ := h
    exact ⟨pps_nil, rfl, rfl⟩
  | .cons kc vc r, pos, sc, raw, W, X, ks, vs, f, c, h => by
    unfold ckPs at h
    split at h
    · simp only [Bool.and_eq_true] at h
      obtain ⟨⟨h1, h2⟩, h3⟩ := h
      obtain ⟨p1, p2, p3⟩ := sPs r pos f c h3
      refine ⟨pps_cons (sE kc f c h1) (sE vc f c h2) p1, by rw [List.all_cons, p2]; rfl, by rw [List.length_cons, List.length_cons, p3]⟩
    · cases h
theorem sPo : ∀ (p : Po) {sc raw : Scope} {W : WX} {X : Cx} {e : Option Expr}, FE tb nm gv cl k X → CO N sc raw W k X → ckPo N nm p sc e = true → PO X e (sem REq X.K W (evpo cl gv p))
  | .none, sc, raw, W, X, e, f, c, h => by
    unfold ckPo at h
    split at h
    · refine PO.of po_none fun σ H Q q => ?_
      obtain ⟨ρ, S, ι, s, e, q⟩ := q
      rw [evpo] at q
      exact q _ _ _ s (Nx.refl _ _ _) rfl
    · cases h
  | .one a, sc, raw, W, X, e, f, c, h => by
    unfold ckPo at h
    split at h
    · refine PO.of (po_some (sE a f c h)) fun σ H Q q => ?_
      obtain ⟨ρ, S, ι, s, e, q⟩ := q
      rw [evpo] at q
      refine sem_bind (R := Rl X.K) s e q fun x v S1 H1 ι1 s1 e1 n1 r1 q1 => ?_
      split at q1
      · cases r1
        exact ⟨_, rfl, q1 _ _ _ s1 (Nx.refl _ _ _) rfl⟩
      · exact q1.elim
    · cases h
theorem sO : ∀ (p : Oc) {sc raw : Scope} {W : WX} {X : Cx} {l : List Expr}, FE tb nm gv cl k X → CO N sc raw W k X → ckO N nm p sc l = true → PTs X l (sem REq X.K W (evo cl gv p))
  | .none, sc, raw, W, X, l, f, c, h => by
    unfold ckO at h
    rw [List.isEmpty_iff] at h
    subst h
    refine PTs.of pts_nil fun σ H Q q => ?_
    obtain ⟨ρ, S, ι, s, e, q⟩ := q
    rw [evo] at q
    exact q _ _ _ s (Nx.refl _ _ _) rfl
  | .one t, sc, raw, W, X, l, f, c, h => by
    unfold ckO at h
    split at h
    · refine PTs.of (pts_one (sT t f c h)) fun σ H Q q => ?_
      obtain ⟨ρ, S, ι, s, e, q⟩ := q
      rw [evo] at q
      exact ⟨ρ, S, ι, s, e, q⟩
    · cases h
theorem sT : ∀ (t : Tc) {sc raw : Scope} {W : WX} {X : Cx} {e : Expr}, FE tb nm gv cl k X → CO N sc raw W k X → ckT N nm t sc e = true → PT X e (sem REq X.K W (tst cl gv t))
  | .cmp o a b, sc, raw, W, X, e, f, c, h => by
    unfold ckT at h
    split at h
    · simp only [Bool.and_eq_true, decide_eq_true_eq, Bool.not_eq_true'] at h
      obtain ⟨⟨⟨rfl, h1⟩, h2⟩, h3⟩ := h
      refine PT.of (pt_cmpR (op_rC c.u64 o) (sE a f c h1) (sE b f c h2) h3) fun σ H Q q => ?_
      obtain ⟨ρ, S, ι, s, e, q⟩ := q
      rw [tst] at q
      exact tst2 (fun s rx ry h => rC_ok s rx ry h) s e q
    · cases h
  | .chn o1 o2 a b d, sc, raw, W, X, e, f, c, h => by
    unfold ckT at h
    split at h
    · simp only [Bool.and_eq_true, decide_eq_true_eq, Bool.not_eq_true'] at h
      obtain ⟨⟨⟨⟨⟨⟨rfl, rfl⟩, h1⟩, h2⟩, h3⟩, h4⟩, h5⟩ := h
      refine PT.of (pt_chain (op_rC c.u64 o1) (op_rC c.u64 o2) (sE a f c h1) (sE b f c h2) (sE d f c h3) h5) fun σ H Q q => ?_
      obtain ⟨ρ, S, ι, s, e, q⟩ := q
      rw [tst] at q
      exact tchn3 s e q
    · cases h
  | .bo o ts, sc, raw, W, X, e, f, c, h => by
    unfold ckT at h
    split at h
    · rw [Bool.and_eq_true, decide_eq_true_eq] at h
      obtain ⟨rfl, h⟩ := h
      refine PT.of (PW.pt (sTs ts o f c h)) fun σ H Q q => ?_
      obtain ⟨ρ, S, ι, s, e, q⟩ := q
      rw [tst] at q
      exact ⟨ρ, S, ι, s, e, q⟩
    · cases h
  | .nt t, sc, raw, W, X, e, f, c, h => by
    unfold ckT at h
    split at h
    · refine PT.of (pt_not (sT t f c h)) fun σ H Q q => ?_
      obtain ⟨ρ, S, ι, s, e, q⟩ := q
      rw [tst] at q
      refine sem_bind (R := REq) s e q fun b b' S1 H1 ι1 s1 e1 n1 r1 q1 => ?_
      subst r1
      exact q1 _ _ _ s1 (Nx.refl _ _ _) rfl
    · cases h
  | .tr a, sc, raw, W, X, e, f, c, h => by
    unfold ckT at h
    rw [Bool.and_eq_true] at h
    refine PT.of (pt_truth (sE a f c h.1) (isTrue_of h.2)) fun σ H Q q => ?_
    obtain ⟨ρ, S, ι, s, e, q⟩ := q
    rw [tst] at q
    refine sem_bind (R := Rl X.K) s e q fun x v S1 H1 ι1 s1 e1 n1 r1 q1 => ?_
    split at q1
    · rename_i b hb
      exact ⟨b, truth_ok s1 r1 hb, q1 _ _ _ s1 (Nx.refl _ _ _) rfl⟩
    · exact q1.elim
theorem sTs : ∀ (ts : Ts) (o : BoolOp) {sc raw : Scope} {W : WX} {X : Cx} {l : List Expr} {pos : Pos}, FE tb nm gv cl k X → CO N sc raw W k X → ckTs N nm ts sc l = true → PW X (.BoolOp o l pos) (sem REq X.K W (tsb cl gv o ts))
  | .nil, o, sc, raw, W, X, l, pos, f, c, h => pw_never fun ρ S => by rw [tsb]
  | .cons a .nil, o, sc, raw, W, X, l, pos, f, c, h => by
    unfold ckTs at h
    split at h
    · simp only [Bool.and_eq_true] at h
      obtain ⟨h1, h3⟩ := h
      unfold ckTs at h3
      rw [List.isEmpty_iff] at h3
      subst h3
      cases o with
      | And =>
        refine PW.of (pw_and1 (sT a f c h1)) fun σ H Q q => ?_
        obtain ⟨ρ, S, ι, s, e, q⟩ := q
        rw [tsb] at q
        exact ⟨ρ, S, ι, s, e, q⟩
      | Or =>
        refine PW.of (pw_or1 (sT a f c h1)) fun σ H Q q => ?_
        obtain ⟨ρ, S, ι, s, e, q⟩ := q
        rw [tsb] at q
        exact ⟨ρ, S, ι, s, e, q⟩
    · cases h
  | .cons a (.cons b r), o, sc, raw, W, X, l, pos, f, c, h => by
    unfold ckTs at h
    split at h
    · rename_i e es
      simp only [Bool.and_eq_true] at h
      obtain ⟨h1, h3⟩ := h
      cases es with
      | nil => unfold ckTs at h3; cases h3
      | cons e2 es2 =>
        cases o with
        | And =>
          refine PW.of (pw_and (sT a f c h1) (sTs (.cons b r) .And f c h3)) fun σ H Q q => ?_
          obtain ⟨ρ, S, ι, s, e, q⟩ := q
          simp only [tsb] at q
          refine sem_bind (R := REq) s e q fun x v S1 H1 ι1 s1 e1 n1 r1 h1 => ?_
          subst r1
          split
          · rename_i hb
            rw [if_pos hb] at h1
            exact ⟨ρ, S1, ι1, s1, e1, h1⟩
          · rename_i hb
            rw [if_neg hb] at h1
            exact h1 _ _ _ s1 (Nx.refl _ _ _) rfl
        | Or =>
          refine PW.of (pw_or (sT a f c h1) (sTs (.cons b r) .Or f c h3)) fun σ H Q q => ?_
          obtain ⟨ρ, S, ι, s, e, q⟩ := q
          simp only [tsb] at q
          refine sem_bind (R := REq) s e q fun x v S1 H1 ι1 s1 e1 n1 r1 h1 => ?_
          subst r1
          split
          · rename_i hb
            rw [if_pos hb] at h1
            exact h1 _ _ _ s1 (Nx.refl _ _ _) rfl
          · rename_i hb
            rw [if_neg hb] at h1
            exact ⟨ρ, S1, ι1, s1, e1, h1⟩
    · cases h
theorem sG : ∀ (g : Gc) {sc raw : Scope} {W : WX} {X : Cx} {e : Expr}, FE tb nm gv cl k X → CO N sc raw W k X → ckG N nm g sc raw e = true → PG X e (semG X.K W (gslots g) (asn cl gv g))
  | .nm i, sc, raw, W, X, e, f, c, h => by
    unfold ckG at h
    split at h
    · rename_i x pos
      simp only [Bool.and_eq_true, decide_eq_true_eq, Bool.or_eq_true] at h
      obtain ⟨h1, h2⟩ := h
      have hl : Loc X.env.scope x := by
        rw [c.hsc]
        rcases h2 with h2 | h2
        · exact .inl (c.loc x h2)
        · exact .inr (c.cel x h2).1
      have hf : X.fn x = true ∨ X.env.scope.names.lookup x = some .local := by
        rw [c.hsc]
        rcases h2 with h2 | h2
        · exact .inr (c.loc x h2)
        · exact .inl (c.cel x h2).2
      refine PG.of (pg_name (by rw [c.hN]; exact c.nd) (by rw [c.hN]; exact h1) hl hf) fun v σ H Q q => ?_
      obtain ⟨d, ρ, S, ι, s, e, r, q⟩ := q
      rw [asn] at q
      refine q (σ.set i (some v)) H ι s (Nx.refl _ _ _) (e.set r i) (fun j hj => ?_) (List.length_set ..)
      refine List.getElem?_set_ne fun hij => hj ?_
      subst hij
      exact List.mem_singleton.mpr rfl
    · cases h
  | .tup gs, sc, raw, W, X, e, f, c, h => by
    unfold ckG at h
    split at h
    · rename_i es k0 pos
      obtain ⟨hst, hln⟩ := ckGs_star h
      obtain ⟨a1, a2⟩ := assignEach_len (env := X.env) hst
      refine PG.of (pg_tup (n := es.length) c.calm (sGs gs f c h) a1 a2) fun v σ H Q q => ?_
      obtain ⟨d, ρ, S, ι, s, e, r, q⟩ := q
      cases r with
      | @tup a0 ds0 vs0 ht rs =>
        rw [asn] at q
        by_cases hl : ds0.length = gs.len
        · simp only [hl, if_true] at q
          exact ⟨_, _, rfl, ht.sq, by rw [← rs.length, hl, hln], _, ρ, S, ι, s, e, rs, q⟩
        · simp only [hl, if_false] at q
          exact q.elim
      | _ => simp only [asn] at q; exact q.elim
    · cases h
  | .ix a b, sc, raw, W, X, e, f, c, h => by
    unfold ckG at h
    split at h
    · simp only [Bool.and_eq_true] at h
      obtain ⟨⟨h1, h2⟩, h3⟩ := h
      refine PG.of (pg_sub (sE a f c h1) (sE b f c h2) (set_any c.u1) (sub_assign h3)) fun v σ H Q q => ?_
      obtain ⟨d, ρ, S, ι, s, e, r, q⟩ := q
      rw [asn] at q
      refine ⟨ρ, S, ι, s, e, Res.sat_mono (Res.sat_bind.mp q) (fun x S1 q1 u H1 ι1 s1 n1 r1 => ?_) fun _ _ b => b⟩
      refine ⟨ρ, S1, ι1, s1, e.mono n1, Res.sat_mono (Res.sat_bind.mp q1) (fun y S2 q2 w H2 ι2 s2 n2 r2 => ?_) fun _ _ b => b.mono n1⟩
      refine setop_ok s2 (r1.mono n2) r2 ((r.mono n1).mono n2) (Res.sat_mono (Res.sat_bind.mp q2) (fun _ S3 q3 H3 ι3 s3 n3 => ?_) fun _ _ b => b)
      have n13 := (n1.trans n2).trans n3
      exact q3 σ H3 ι3 s3 n13 (e.mono n13) (fun _ _ => rfl) rfl
    · cases h
theorem sGs : ∀ (gs : Gs) {sc raw : Scope} {W : WX} {X : Cx} {l : List Expr}, FE tb nm gv cl k X → CO N sc raw W k X → ckGs N nm gs sc raw l = true → PGs X l (semGs X.K W (gslots.gslotss gs) (asns cl gv gs))
  | .nil, sc, raw, W, X, l, f, c, h => by
    unfold ckGs at h
    rw [List.isEmpty_iff] at h
    subst h
    refine PGs.of pgs_nil fun us σ H Q q => ?_
    obtain ⟨ds, ρ, S, ι, s, e, r, q⟩ := q
    cases r with
    | nil =>
      rw [asns] at q
      exact ⟨rfl, q σ H ι s (Nx.refl _ _ _) e (fun _ _ => rfl) rfl⟩
    | cons _ _ =>
      simp only [asns] at q
      exact q.elim
  | .cons g r, sc, raw, W, X, l, f, c, h => by
    unfold ckGs at h
    split at h
    · simp only [Bool.and_eq_true] at h
      obtain ⟨⟨h1, h2⟩, h3⟩ := h
      refine PGs.of (pgs_cons (sG g f c h1) (sGs r f c h3) (by rw [assignEach_cons h2]; rfl)) fun us σ H Q q => ?_
      obtain ⟨ds, ρ, S, ι, s, e, rr, q⟩ := q
      cases rr with
      | nil =>
        simp only [asns] at q
        exact q.elim
      | @cons d ds v vs r1 r2 =>
        rw [asns] at q
        refine ⟨v, vs, rfl, d, ρ, S, ι, s, e, r1, Res.sat_mono (Res.sat_bind.mp q) (fun ρ1 S1 q1 σ1 H1 ι1 s1 n1 e1 x1 l1 => ?_) fun _ _ b => b⟩
        refine ⟨ds, ρ1, S1, ι1, s1, e1, r2.mono n1, Res.sat_mono (Res.sat_calm (B' := fun _ _ => False) q1) (fun ρ2 S2 q2 σ2 H2 ι2 s2 n2 e2 x2 l2 => ?_) fun _ _ b => b.elim⟩
        refine q2 σ2 H2 ι2 s2 (n1.trans n2) e2 (fun i hi => ?_) (l2.trans l1)
        rw [x2 i fun hm => hi (List.mem_append_right _ hm), x1 i fun hm => hi (List.mem_append_left _ hm)]
    · cases h
theorem sI : ∀ (it : Ic) {sc raw : Scope} {W : WX} {X : Cx} {tg e : Expr}, FE tb nm gv cl k X → CO N sc raw W k X → ckI N nm it sc tg e = true → PI X tg e (semI X.K W (evi cl gv it))
  | .e a, sc, raw, W, X, tg, e, f, c, h => by
    unfold ckI at h
    have he := sE a f c h
    refine PI.of (Vm.PI.or (Vm.PI.or (pi_list (tg := tg) he) (pi_tup he)) (pi_str he)) fun σ H Q q => ?_
    obtain ⟨ρ, S, ι, s, e, q⟩ := q
    rw [evi] at q
    cases hv : ev cl gv a ρ S with
    | no => rw [hv] at q; exact q.elim
    | rs x S1 =>
      rw [hv] at q
      exact .inr ⟨ρ, S, ι, s, e, by rw [hv]; exact q⟩
    | ok d S1 =>
      rw [hv, Res.bind_ok] at q
      have go : ∀ (T : VK), (∀ v H1 ι1, Sim X.K S1 H1 ι1 → Nx X.K H H1 ι ι1 → Rl X.K H1 ι1 d v → T v H1) → sem (Rl X.K) X.K W (ev cl gv a) σ H T := fun T hT => ⟨ρ, S, ι, s, e, by rw [hv]; exact hT⟩
      unfold walkop at q
      split at q
      · refine .inl (.inr (go _ fun v H1 ι1 s1 n1 r1 => ?_))
        cases r1 with
        | tup ht rs => exact ⟨_, rfl, ⟨_, ht.sq⟩, q _ _ _ s1 n1 (wok_tup ht rs) (fun _ _ _ z => nomatch z) (fun _ _ z => nomatch z)⟩
      · refine .inl (.inl (go _ fun v H1 ι1 s1 n1 r1 => ?_))
        cases r1 with
        | rol ht rs => exact ⟨_, rfl, ⟨_, ht.sq⟩, q _ _ _ s1 n1 (wok_rol ht rs) (fun _ _ _ z => nomatch z) (fun _ _ z => nomatch z)⟩
      · refine .inr (go _ fun v H1 ι1 s1 n1 r1 => ?_)
        cases r1
        exact ⟨_, rfl, q _ _ _ s1 n1 wok_str (fun _ _ _ z => nomatch z) (fun _ _ z => nomatch z)⟩
      · split at q
        · rename_i n xs hc
          refine .inl (.inl (go _ fun v H1 ι1 s1 n1 r1 => ?_))
          obtain ⟨a', vs, rfl, ia, e1, r2⟩ := lst_at s1 r1 hc
          exact ⟨a', rfl, ⟨vs, SqL.of e1⟩, q _ _ _ s1 n1 (wok_lst ia) (fun _ _ _ z => nomatch z) (fun _ _ z => nomatch z)⟩
        · exact q.elim
      · exact q.elim
  | .rng es, sc, raw, W, X, tg, e, f, c, h => by
    unfold ckI at h
    split at h
    · rename_i x p vs pos
      simp only [Bool.and_eq_true, decide_eq_true_eq, Bool.or_eq_true, beq_iff_eq] at h
      obtain ⟨⟨⟨rfl, h2⟩, h3⟩, h4⟩ := h
      obtain ⟨g1, g2, g3⟩ := glb_ok h2
      have hst := ckEs_star h3
      have hln := ckEs_len h3
      have hm : X.mg "range" = none := f.blt _ (by decide)
      have ha := sEs es f c h3
      match vs, h4 with
      | [a], _ =>
        rw [List.all_cons, Bool.and_eq_true] at hst
        refine PI.of (pi_range1 (c.gl g1) hm ha (starEach_cons hst.1)) fun σ H Q q => ?_
        obtain ⟨ρ, S, ι, s, e, q⟩ := q
        rw [evi] at q
        refine ⟨ρ, S, ι, s, e, Res.sat_mono (Res.sat_eq (Res.sat_bind.mp q)) (fun xs S1 q1 us H1 ι1 s1 n1 r1 => ?_) fun _ _ b => b⟩
        obtain ⟨q0, q1⟩ := q1
        have hx := evs_len es q0
        unfold rngop at q1
        split at q1
        · split at q1
          · rename_i hb
            cases r1 with
            | cons r2 r3 =>
              cases r2
              cases r3
              exact ⟨_, rfl, hb.1, hb.2, q1 _ _ _ s1 n1 wok_rng (fun _ _ _ z => nomatch z) (fun _ _ z => nomatch z)⟩
          · exact q1.elim
        · rw [hln] at hx
          cases hx
        · exact q1.elim
      | [a, b], _ =>
        rw [List.all_cons, Bool.and_eq_true, List.all_cons, Bool.and_eq_true] at hst
        refine PI.of (pi_range2 (c.gl g1) hm ha (by rw [starEach_cons hst.1, starEach_cons hst.2.1]; rfl) (starEach_cons hst.2.1)) fun σ H Q q => ?_
        obtain ⟨ρ, S, ι, s, e, q⟩ := q
        rw [evi] at q
        refine ⟨ρ, S, ι, s, e, Res.sat_mono (Res.sat_eq (Res.sat_bind.mp q)) (fun xs S1 q1 us H1 ι1 s1 n1 r1 => ?_) fun _ _ b => b⟩
        obtain ⟨q0, q1⟩ := q1
        have hx := evs_len es q0
        unfold rngop at q1
        split at q1
        · rw [hln] at hx
          cases hx
        · split at q1
          · rename_i hb
            cases r1 with
            | cons r2 r3 =>
              cases r2
              cases r3 with
              | cons r4 r5 =>
                cases r4
                cases r5
                exact ⟨_, _, rfl, hb, q1 _ _ _ s1 n1 wok_rng (fun _ _ _ z => nomatch z) (fun _ _ z => nomatch z)⟩
          · exact q1.elim
        · exact q1.elim
    · cases h
  | .items a, sc, raw, W, X, tg, e, f, c, h => by
    unfold ckI at h
    split at h
    · simp only [Bool.and_eq_true, decide_eq_true_eq] at h
      obtain ⟨⟨⟨rfl, h2⟩, h3⟩, h4⟩ := h
      refine PI.of (pi_itemsL (sE a f c h2) (fun σ H Q Q' m q => sem_mono q m) (base_of h3 _) h4) fun σ H Q q => ?_
      obtain ⟨ρ, S, ι, s, e, q⟩ := q
      rw [evi] at q
      refine ⟨ρ, S, ι, s, e, Res.sat_mono (Res.sat_bind.mp q) (fun x S1 q1 v H1 ι1 s1 n1 r1 => ?_) fun _ _ b => b⟩
      unfold itemsop at q1
      split at q1
      · split at q1
        · rename_i n kvs hc
          obtain ⟨a', zs, rfl, ia, e1, r2⟩ := dct_at s1 r1 hc
          refine ⟨a', zs, rfl, e1, fun o => ?_⟩
          have n2 : Nx X.K H1 (upd H1 a' (.frz o (.dK zs))) ι1 ι1 := Nx.write s1 hc rfl ia _
          refine q1 _ _ ι1 (s1.put hc rfl rfl ia ⟨zs, o, upd_same, RlP.mono n2 r2⟩) (n1.trans n2) (wok_items ia upd_same) (fun n' kvs' d hw hd => ?_) (fun n' kvs' hw => ?_)
          · cases hw
            rw [ia] at hd
            cases hd
            refine ⟨rfl, fun o u z => ?_⟩
            have := n1.frz _ _ _ z
            rw [e1] at this
            cases this
          · cases hw
            exact (List.getElem?_eq_some_iff.mp ia).1
        · exact q1.elim
      · exact q1.elim
    · cases h
end
end
end Vm

set_option Elab.async false
set_option linter.all false
set_option maxRecDepth 100000
set_option maxHeartbeats 8000000
/-! VmJ: the soundness of statements and defs. -/
namespace Vm
open PySem PySem.Spec L2

/-- the value is a comprehension that the assignment swaps in, or not -/
def swTrue (sc : Scope) (x : Str) (py : Pos) : Expr → Bool
  | .ListComp _ _ scope pos => decide (sc.kind = .function) && decide (sc.names.lookup x = some .local) && (py.line == pos.line) && !(scope.names.any fun (n, k) => n == x && (k == .local || k == .cell))
  | _ => false
def swFalse (py : Pos) : Expr → Bool
  | .ListComp _ _ _ pos => !(py.line == pos.line)
  | e => noComp e
def notName : Expr → Bool
  | .Name _ _ => false
  | _ => true
/-- no pair of displays -/
def noPair : Expr → Expr → Bool
  | .Tuple _ _ _, .Tuple _ _ _ => false
  | .List _ _, _ => false
  | _, _ => true
section
variable (N : List Str) (nm : List Str)
mutual
def ckS : Sc → Scope → Stmt → Bool
  | .asg g e, sc, st => match st with
    | .Assign [tg] v pos => ckG N nm g sc sc tg && ckE N nm e sc v && (match tg with
      | .Name x py => swFalse py v || swTrue sc x py v
      | _ => notStar tg && noPair tg v)
    | _ => false
  | .aug i o e, sc, st => match st with
    | .AugAssign (.Name x _) o' v _ => decide (o = o') && decide (N[i]? = some x) && (decide (sc.names.lookup x = some .local) || decide (sc.names.lookup x = some .cell)) && ckE N nm e sc v
    | _ => false
  | .ex e, sc, st => match st with
    | .Expr v _ => ckE N nm e sc v && noComp v
    | _ => false
  | .ret e, sc, st => match st with
    | .Return (some v) _ => ckE N nm e sc v
    | _ => false
  | .retn, _, st => match st with
    | .Return none _ => true
    | _ => false
  | .ite t a b, sc, st => match st with
    | .If c x y _ => ckT N nm t sc c && ckB a sc x && ckB b sc y
    | _ => false
  | .fr g it b, sc, st => match st with
    | .For tg iter body [] _ => ckI N nm it sc tg iter && ckG N nm g sc sc tg && ckB b sc body && noSet iter
    | _ => false
  | .wh _ t b, sc, st => match st with
    | .While c body [] _ => ckT N nm t sc c && ckB b sc body
    | _ => false
  | .pass, _, st => match st with
    | .Pass _ => true
    | _ => false
  | .brk, _, st => match st with
    | .Break _ => true
    | _ => false
  | .cont, _, st => match st with
    | .Continue _ => true
    | _ => false
def ckB : Bc → Scope → List Stmt → Bool
  | .nil, _, l => l.isEmpty
  | .cons s r, sc, l => match l with
    | st :: sts => ckS s sc st && ckB r sc sts
    | [] => false
end
end
theorem sw_false {py : Pos} {v : Expr} {x : Str} {l : Nat} {env : Env} (h : swFalse py v = true) : swapsWith v (some (.Name x py)) l env = pure false := by
  unfold swFalse at h
  split at h
  · rename_i pos
    rw [Bool.not_eq_true'] at h
    unfold swapsWith
    have h' : (py.line == pos.line) = false := h
    simp only [Expr.pos, h', Bool.and_false, Bool.false_and]
  · exact swaps_of h _ _
theorem sw_other {tg v : Expr} {l : Nat} {env : Env} (h : ∀ x p, tg ≠ .Name x p) : swapsWith v (some tg) l env = pure false := by
  unfold swapsWith
  split
  · split
    · rename_i z
      cases z
    · rename_i z
      cases z
      exact absurd rfl (h _ _)
    · rfl
  · rfl
theorem stores_none {tg v : Expr} {env : Env} (h : noPair tg v = true) : swappedStores [tg] v env = pure none := by
  cases tg with
  | Tuple ts k p => cases v <;> first | rfl | cases h
  | List ts p => cases v <;> cases h
  | _ => first | rfl | (cases v <;> rfl)

section
variable {tb : List Fn} {nm : List Str} {gv : Str → Option Dv} {cl : Nat → List Dv → Sto → Res Dv} {k : Nat} {N : List Str}
section
variable {K : PySem.W.Frag} {S : Sto} {H : Hp} {ι : List Addr} {W : WX} {σ : L2.St} {ρ : Envr} {D : Ends}
/-- a target is stored, then the rest -/
theorem asg_ok {g : Gc} {d : Dv} {v : V} {kf : Envr → Sto → Out} {T : L2.St → Hp → Prop} (s : Sim K S H ι) (e : RlE K H ι ρ σ) (r : Rl K H ι d v) (h : OkO K H ι W D ((asn cl gv g d ρ S).out ρ kf))
    (hk : ∀ ρ' S' σ' H' ι', Sim K S' H' ι' → RlE K H' ι' ρ' σ' → OkO K H' ι' W D (kf ρ' S') → T σ' H') : semG K W (gslots g) (asn cl gv g) v σ H T := by
  refine ⟨d, ρ, S, ι, s, e, r, ?_⟩
  cases hq : asn cl gv g d ρ S with
  | ok ρ' S' =>
    rw [hq] at h
    exact fun σ' H' ι' s' n' e' _ _ => hk ρ' S' σ' H' ι' s' e' (OkO.mono n' h)
  | rs x S' =>
    rw [hq] at h
    exact fun cls dx H' ι' s' n' x' => h cls dx σ H' ι' s' n' (e.mono n') x'
  | no => rw [hq] at h; exact h
end
mutual
theorem sS : ∀ (a : Sc) {sc : Scope} {W : WX} {X : Cx} {st : Stmt}, FE tb nm gv cl k X → CO N sc sc W k X → ckS N nm a sc st = true → PS X st (semS X.K W (exS cl gv a))
  | .asg g v, sc, W, X, st, f, c, h => by
    unfold ckS at h
    split at h
    · rename_i tg e pos
      simp only [Bool.and_eq_true] at h
      obtain ⟨⟨h1, h2⟩, h3⟩ := h
      have base : ∀ {D σ H}, semS X.K W (exS cl gv (.asg g v)) D σ H → tAsg (sem (Rl X.K) X.K W (ev cl gv v)) (semG X.K W (gslots g) (asn cl gv g)) D σ H := fun {D σ H} q => by
        obtain ⟨ρ, S, ι, s, e, q⟩ := q
        rw [exS] at q
        refine out_bind (R := Rl X.K) s e q fun d u S1 H1 ι1 s1 e1 n1 r1 q1 => ?_
        exact asg_ok s1 e1 r1 q1 fun ρ' S' σ' H' ι' s' e' q' => q' σ' H' ι' s' (Nx.refl _ _ _) e'
      split at h3
      · rename_i x py
        cases g with
        | nm i =>
          unfold ckG at h1
          simp only [Bool.and_eq_true, decide_eq_true_eq, Bool.or_eq_true] at h1 h3
          obtain ⟨h1, h5⟩ := h1
          have hl : Loc X.env.scope x := by rw [c.hsc]; exact h5
          have hf : X.fn x = true ∨ X.env.scope.names.lookup x = some .local := by
            rw [c.hsc]
            rcases h5 with h5 | h5
            · exact .inr h5
            · exact .inl (c.cel x h5).2
          have q0 : ∀ {D σ H}, semS X.K W (exS cl gv (.asg (.nm i) v)) D σ H → tAsg (sem (Rl X.K) X.K W (ev cl gv v)) (gName i) D σ H := fun {D σ H} q => by
            obtain ⟨ρ, S, ι, s, e, q⟩ := q
            rw [exS] at q
            refine out_bind (R := Rl X.K) s e q fun d u S1 H1 ι1 s1 e1 n1 r1 q1 => ?_
            rw [asn] at q1
            exact q1 _ _ _ s1 (Nx.refl _ _ _) (e1.set r1 i)
          rcases h3 with h3 | h3
          · exact PS.of (ps_set (by rw [c.hN]; exact c.nd) (by rw [c.hN]; exact h1) hl (sE v f c h2) (sw_false h3) hf) fun D σ H q => q0 q
          · unfold swTrue at h3
            split at h3
            · rename_i elt gs scope lpos
              simp only [Bool.and_eq_true, decide_eq_true_eq, Bool.not_eq_true'] at h3
              obtain ⟨⟨⟨k1, k2⟩, k3⟩, k4⟩ := h3
              cases v with
              | lc own g' it ifs el =>
                unfold ckE at h2
                split at h2
                · rename_i elt' tg' iter' tests' scope' pos' heq
                  cases heq
                  simp only [Bool.and_eq_true] at h2
                  obtain ⟨⟨⟨⟨⟨⟨g1, g2⟩, g3⟩, g4⟩, g5⟩, g6⟩, g7⟩ := h2
                  have cb := fun (s : Shared) (H : Hp) (C : Addr) (cs : List (Str × Addr)) (fp : List Addr) => c.blk s H scope C cs fp
                  have fb := fun (s : Shared) (H : Hp) (C : Addr) (cs : List (Str × Addr)) (fp : List Addr) => f.blk s H scope (compEnvC scope cs C X.env) fp
                  refine PS.of (ps_unl (ps_setLc (g := semG X.K WN (gslots g') (asn cl gv g')) (tt := sem REq X.K WN (evo cl gv ifs)) (te := sem (Rl X.K) X.K WN (ev cl gv el)) c.calm (by rw [c.hN]; exact c.nd) (by rw [c.hN]; exact h1) (by rw [c.hsc]; exact k2)
                    (sw_true (by rw [c.hsc]; exact k1) (by rw [c.hsc]; exact k2) k3 k4) (sI it f c g2) (by rw [c.hN, c.hsc]; exact blkOk_by g1) (fun s H C cs fp => sG g' (fb s H C cs fp) (cb s H C cs fp) g3) (fun s H C cs fp => sO ifs (fb s H C cs fp) (cb s H C cs fp) g4)
                    (fun s H C cs fp => sE el (fb s H C cs fp) (cb s H C cs fp) g5) (fun x => set_of g6 x))) fun D σ H q => ?_
                  obtain ⟨ρ, S, ι, s, e, q⟩ := q
                  rw [exS] at q
                  have q2 : (ev cl gv (.lc own g' it ifs el) ρ S).sat (Okg (Rl X.K) X.K H ι fun u H1 => D.nx (σ.set i (some u)) H1) (Bx X.K H ι W σ) := by
                    cases hv : ev cl gv (.lc own g' it ifs el) ρ S with
                    | ok d S1 =>
                      rw [hv, Res.out_ok, asn, Res.out_ok] at q
                      exact fun u H1 ι1 s1 n1 r1 => q _ H1 ι1 s1 n1 ((e.mono n1).set r1 i)
                    | rs x S1 =>
                      rw [hv] at q
                      exact fun cls dx H1 ι1 s1 n1 x1 => q cls dx σ H1 ι1 s1 n1 (e.mono n1) x1
                    | no => rw [hv] at q; exact q
                  exact lc_read s e g7 q2
                · cases h2
              | _ => unfold ckE at h2; cases h2
            · cases h3
        | tup gs => unfold ckG at h1; cases h1
        | ix a b => unfold ckG at h1; cases h1
      · rename_i hn
        rw [Bool.and_eq_true] at h3
        refine PS.of (ps_asg (sE v f c h2) (sG g f c h1) (sw_other fun x p z => hn x p z) (stores_none h3.2) (by rw [assignEach_cons h3.1]; rfl)) fun D σ H q => base q
    · cases h
  | .aug i o v, sc, W, X, st, f, c, h => by
    unfold ckS at h
    split at h
    · rename_i x p o' e pos
      simp only [Bool.and_eq_true, decide_eq_true_eq, Bool.or_eq_true] at h
      obtain ⟨⟨⟨rfl, h1⟩, h5⟩, h2⟩ := h
      have hl : Loc X.env.scope x := by rw [c.hsc]; exact h5
      have hf : X.fn x = true ∨ X.env.scope.names.lookup x = some .local := by
        rw [c.hsc]
        rcases h5 with h5 | h5
        · exact .inr h5
        · exact .inl (c.cel x h5).2
      refine PS.of (ps_aug (by rw [c.hN]; exact c.nd) (by rw [c.hN]; exact h1) hl (sE v f c h2) (ip_rAg o) hf) fun D σ H q => ?_
      obtain ⟨ρ, S, ι, s, e, q⟩ := q
      rw [exS] at q
      split at q
      · rename_i x hx
        obtain ⟨w, hw, rw'⟩ := e.2 i x hx
        refine ⟨w, hw, out_bind (R := Rl X.K) s e q fun d u S1 H1 ι1 s1 e1 n1 r1 q1 => ?_⟩
        refine rAg_ok (B := Bx X.K H1 ι1 W σ) s1 (rw'.mono n1) r1 ?_
        cases hq : augop o x d S1 with
        | ok z S2 =>
          rw [hq] at q1
          exact fun u2 H2 ι2 s2 n2 r2 => q1 _ H2 ι2 s2 n2 ((e1.mono n2).set r2 i)
        | rs x S2 =>
          rw [hq] at q1
          exact fun cls dx H2 ι2 s2 n2 x2 => q1 cls dx σ H2 ι2 s2 n2 (e1.mono n2) x2
        | no => rw [hq] at q1; exact q1
      · exact q.elim
    · cases h
  | .ex v, sc, W, X, st, f, c, h => by
    unfold ckS at h
    split at h
    · rw [Bool.and_eq_true] at h
      refine PS.of (ps_expr (sE v f c h.1) (swaps_of h.2 _ _)) fun D σ H q => ?_
      obtain ⟨ρ, S, ι, s, e, q⟩ := q
      rw [exS] at q
      exact out_bind (R := Rl X.K) s e q fun d u S1 H1 ι1 s1 e1 n1 r1 q1 => q1 _ _ _ s1 (Nx.refl _ _ _) e1
    · cases h
  | .ret v, sc, W, X, st, f, c, h => by
    unfold ckS at h
    split at h
    · refine PS.of (ps_ret (sE v f c h)) fun D σ H q => ?_
      obtain ⟨ρ, S, ι, s, e, q⟩ := q
      rw [exS] at q
      exact out_bind (R := Rl X.K) s e q fun d u S1 H1 ι1 s1 e1 n1 r1 q1 => q1 _ _ _ s1 (Nx.refl _ _ _) r1
    · cases h
  | .retn, sc, W, X, st, f, c, h => by
    unfold ckS at h
    split at h
    · refine PS.of ps_retN fun D σ H q => ?_
      obtain ⟨ρ, S, ι, s, e, q⟩ := q
      rw [exS] at q
      exact q _ _ _ s (Nx.refl _ _ _) .non
    · cases h
  | .ite t a b, sc, W, X, st, f, c, h => by
    unfold ckS at h
    split at h
    · simp only [Bool.and_eq_true] at h
      obtain ⟨⟨h1, h2⟩, h3⟩ := h
      refine PS.of (ps_if (sT t f c h1) (sBk a f c h2) (sBk b f c h3)) fun D σ H q => ?_
      obtain ⟨ρ, S, ι, s, e, q⟩ := q
      rw [exS] at q
      refine out_bind (R := REq) s e q fun d u S1 H1 ι1 s1 e1 n1 r1 q1 => ?_
      subst r1
      split
      · rename_i hb
        rw [if_pos hb] at q1
        exact ⟨ρ, S1, ι1, s1, e1, q1⟩
      · rename_i hb
        rw [if_neg hb] at q1
        exact ⟨ρ, S1, ι1, s1, e1, q1⟩
    · cases h
  | .fr g it b, sc, W, X, st, f, c, h => by
    unfold ckS at h
    split at h
    · simp only [Bool.and_eq_true] at h
      obtain ⟨⟨⟨h1, h2⟩, h3⟩, h4⟩ := h
      refine PS.of (ps_unl (ps_for c.own c.calm (sI it f c h1) (sG g f c h2) (sBk b f c h3) (fun x => set_of h4 x))) fun D σ H q => ?_
      obtain ⟨ρ, S, ι, s, e, q⟩ := q
      rw [exS] at q
      refine ⟨ρ, S, ι, s, e, ?_⟩
      cases hi : evi cl gv it ρ S with
      | rs x S1 =>
        rw [hi] at q
        exact fun cls dx H1 ι1 s1 n1 x1 => q cls dx σ H1 ι1 s1 n1 (e.mono n1) x1
      | no => rw [hi] at q; exact q
      | ok w S1 =>
        rw [hi] at q
        intro J H1 ι1 s1 n1 wok lk hn
        refine for_ok s1 n1 (e.mono n1) wok lk hn q fun Nn d v ρ' S' σ' H' ι' s' e' r' q' => ?_
        exact asg_ok s' e' r' q' fun ρ2 S2 σ2 H2 ι2 s2 e2 q2 => ⟨ρ2, S2, ι2, s2, e2, q2⟩
    · cases h
  | .wh n t b, sc, W, X, st, f, c, h => by
    unfold ckS at h
    split at h
    · simp only [Bool.and_eq_true] at h
      obtain ⟨h1, h2⟩ := h
      refine PS.of (ps_while c.own (sT t f c h1) (sBk b f c h2)) fun D σ H q => ?_
      refine ⟨fun m σ H => semS X.K W (whL (tst cl gv t) (exB cl gv b) m) D σ H, ⟨n, ?_⟩, fun m σ H q => ?_⟩
      · obtain ⟨ρ, S, ι, s, e, q⟩ := q
        rw [exS] at q
        exact ⟨ρ, S, ι, s, e, q⟩
      · obtain ⟨ρ, S, ι, s, e, q⟩ := q
        cases m with
        | zero => exact q.elim
        | succ m =>
          rw [whL] at q
          refine out_bind (R := REq) s e q fun d u S1 H1 ι1 s1 e1 n1 r1 q1 => ?_
          subst r1
          split
          · rename_i hb
            rw [if_pos hb] at q1
            refine ⟨fun σ' H' => semS X.K W (whL (tst cl gv t) (exB cl gv b) m) D σ' H', fun σ' H' q => ⟨m, Nat.lt_succ_self m, q⟩, ρ, S1, ι1, s1, e1, ?_⟩
            cases hq : exB cl gv b ρ S1 with
            | nx ρ' S' =>
              rw [hq] at q1
              exact fun σ' H' ι' s' n' e' => ⟨ρ', S', ι', s', e', OkO.mono n' q1⟩
            | ct ρ' S' =>
              rw [hq] at q1
              exact fun σ' H' ι' s' n' e' => ⟨ρ', S', ι', s', e', OkO.mono n' q1⟩
            | bk ρ' S' => rw [hq] at q1; exact q1
            | rt d' S' => rw [hq] at q1; exact q1
            | rs x ρ' S' => rw [hq] at q1; exact q1
            | no => rw [hq] at q1; exact q1
          · rename_i hb
            rw [if_neg hb] at q1
            exact q1 _ _ _ s1 (Nx.refl _ _ _) e1
    · cases h
  | .pass, sc, W, X, st, f, c, h => by
    unfold ckS at h
    split at h
    · refine PS.of ps_pass fun D σ H q => ?_
      obtain ⟨ρ, S, ι, s, e, q⟩ := q
      rw [exS] at q
      exact q _ _ _ s (Nx.refl _ _ _) e
    · cases h
  | .brk, sc, W, X, st, f, c, h => by
    unfold ckS at h
    split at h
    · refine PS.of ps_break fun D σ H q => ?_
      obtain ⟨ρ, S, ι, s, e, q⟩ := q
      rw [exS] at q
      exact q _ _ _ s (Nx.refl _ _ _) e
    · cases h
  | .cont, sc, W, X, st, f, c, h => by
    unfold ckS at h
    split at h
    · refine PS.of ps_continue fun D σ H q => ?_
      obtain ⟨ρ, S, ι, s, e, q⟩ := q
      rw [exS] at q
      exact q _ _ _ s (Nx.refl _ _ _) e
    · cases h
theorem sBk : ∀ (a : Bc) {sc : Scope} {W : WX} {X : Cx} {sts : List Stmt}, FE tb nm gv cl k X → CO N sc sc W k X → ckB N nm a sc sts = true → PSs X sts (semS X.K W (exB cl gv a))
  | .nil, sc, W, X, sts, f, c, h => by
    unfold ckB at h
    rw [List.isEmpty_iff] at h
    subst h
    refine PSs.of pss_nil fun D σ H q => ?_
    obtain ⟨ρ, S, ι, s, e, q⟩ := q
    rw [exB] at q
    exact q _ _ _ s (Nx.refl _ _ _) e
  | .cons a r, sc, W, X, sts, f, c, h => by
    unfold ckB at h
    split at h
    · rw [Bool.and_eq_true] at h
      refine PSs.of (pss_cons (sS a f c h.1) (sBk r f c h.2)) fun D σ H q => ?_
      obtain ⟨ρ, S, ι, s, e, q⟩ := q
      rw [exB] at q
      refine ⟨ρ, S, ι, s, e, ?_⟩
      cases hq : exS cl gv a ρ S with
      | nx ρ' S' =>
        rw [hq] at q
        exact fun σ' H' ι' s' n' e' => ⟨ρ', S', ι', s', e', OkO.mono n' q⟩
      | ct ρ' S' => rw [hq] at q; exact q
      | bk ρ' S' => rw [hq] at q; exact q
      | rt d' S' => rw [hq] at q; exact q
      | rs x ρ' S' => rw [hq] at q; exact q
      | no => rw [hq] at q; exact q
    · cases h
end
end
end Vm

set_option Elab.async false
set_option linter.all false
set_option maxRecDepth 100000
set_option maxHeartbeats 8000000
/-! VmK: the soundness of defs and programs. -/
namespace Vm
open PySem PySem.Spec L2

section
variable {K : PySem.W.Frag} {S : Sto} {H : Hp} {ι : List Addr}
theorem rlE_reps (m : Nat) : ∀ {ds : List Dv} {vs : List V}, Rls K H ι ds vs → RlE K H ι (ds.map some ++ List.replicate m none) (vs.map some ++ List.replicate m none) := by
  intro ds vs r
  refine ⟨by simp [r.length], fun i d h => ?_⟩
  by_cases hi : i < ds.length
  · rw [List.getElem?_append_left (by simpa using hi), List.getElem?_map] at h
    cases hd : ds[i]? with
    | none => rw [hd] at h; cases h
    | some d' =>
      rw [hd] at h
      cases h
      obtain ⟨v, h1, h2⟩ := r.get hd
      refine ⟨v, ?_, h2⟩
      rw [List.getElem?_append_left (by rw [List.length_map, ← r.length]; exact hi), List.getElem?_map, h1]
      rfl
  · rw [List.getElem?_append_right (by simpa using hi)] at h
    have := List.mem_of_getElem? h
    rw [List.mem_replicate] at this
    cases this.2
theorem rlE_start {N : List Str} {ds : List Dv} {vs : List V} (r : Rls K H ι ds vs) : RlE K H ι (Vm.start N.length ds) (L2.start N vs) := by
  unfold Vm.start L2.start
  rw [← r.length]
  exact rlE_reps _ r
theorem res_ok {o : Out} {Q : VK} {E : XK} (h : o.res.sat (Ok1 K H ι Q) (fun x S' => ∀ cls dx H' ι', Sim K S' H' ι' → Nx K H H' ι ι' → XOk K x cls dx H' ι' → E cls dx H')) :
    OkO K H ι (fun cls d _ H => E cls d H) { nx := fun _ H' => Q .non H', rt := Q } o := by
  cases o with
  | nx ρ S => exact fun σ' H' ι' s n e => h .non H' ι' s n .non
  | rt d S => exact h
  | bk ρ S => exact h.elim
  | ct ρ S => exact h.elim
  | rs x ρ S => exact fun cls dx σ' H' ι' s n e xo => h cls dx H' ι' s n xo
  | no => exact h.elim
end

/-- a def of the program as it stands: its text is its code -/
structure DefOk (K : PySem.W.Frag) (mg : Str → Option Value) (nm : List Str) (x : Str) (fn : Fn) (f : Addr) (fd : FuncData) (N ps : List Str) (qual : Str) (st : Stmt) : Prop where
  hf : Fun K x qual st f fd
  sc : FnScope N ps (defScope st)
  np : fn.np = ps.length
  ns : fn.ns = N.length
  ck : ckB N nm fn.body (defScope st) (defBody st) = true
  hm : mg x = some (.ref f)
  bd : Binds K fd ps []
/-- the program -/
structure Prog (K : PySem.W.Frag) (mg : Str → Option Value) (tb : List Fn) (nm : List Str) (gv : Str → Option Dv) : Prop where
  defs : ∀ (i : Nat) (x : Str), nm[i]? = some x → ∃ fn f fd N ps qual st, tb[i]? = some fn ∧ DefOk K mg nm x fn f fd N ps qual st
  glob : ∀ x d, gv x = some d → ∃ v u, mg x = some u ∧ RelV v u ∧ ∀ H ι, Rl K H ι d v
  blt : ∀ x ∈ bnames, mg x = none
theorem run_np {tb : List Fn} {gv : Str → Option Dv} {n i : Nat} {ds : List Dv} {S : Sto} {fn : Fn} (h : tb[i]? = some fn) (hl : ds.length ≠ fn.np) : run tb gv n i ds S = .no := by
  cases n with
  | zero => rfl
  | succ n =>
    unfold run
    rw [h]
    show (if ds.length = fn.np then _ else _) = _
    rw [if_neg hl]
theorem Prog.ok {P : Program} {w : World} {K : PySem.W.Frag} {mg : Str → Option Value} {base : Heap} {tb : List Fn} {nm : List Str} {gv : Str → Option Dv} (pr : Prog K mg tb nm gv) : ∀ (n : Nat) (i : Nat) (x : Str) (fn : Fn) (f : Addr) (fd : FuncData) (N ps : List Str) (qual : Str) (st : Stmt),
    tb[i]? = some fn → DefOk K mg nm x fn f fd N ps qual st → FnOk P w K mg base (L2.CX P w) n f fd ps (spR K (run tb gv n) i fn.np)
  | 0, i, x, fn, f, fd, N, ps, qual, st, hi, d => by
    have no : ∀ vs H Q E, spR K (run tb gv 0) i fn.np vs H Q E → False := fun vs H Q E h => by
      obtain ⟨S, ι, ds, _, _, _, h⟩ := h
      exact h
    exact ⟨fun vs H Q E h => (no _ _ _ _ h).elim, fun A outer s H args us vs Q E _ _ _ _ h => (no _ _ _ _ h).elim⟩
  | n + 1, i, x, fn, f, fd, N, ps, qual, st, hi, d => by
    refine d.hf.okX d.sc (fun vs H Q E h => ?_) fun cdv A outer s H vs Q E hr h => ?_
    · obtain ⟨S, ι, ds, _, r, hl, _⟩ := h
      rw [← r.length, hl, d.np]
    · obtain ⟨S, ι, ds, sm, r, hl, h⟩ := h
      unfold run at h
      rw [hi] at h
      have h : (if ds.length = fn.np then (exB (run tb gv n) gv fn.body (Vm.start fn.ns ds) S).res else .no).sat _ _ := h
      rw [if_pos hl] at h
      let X : Cx := cxOf (L2.CX P w) P w K mg base N qual (defScope st) f cdv A outer s H E
      have fe : FE tb nm gv (run tb gv n) n X := by
        refine ⟨fun j y hy => ?_, fun j es S' fn' hj hne => run_np hj hne, pr.glob, pr.blt⟩
        obtain ⟨fn', f', fd', N', ps', q', st', h1, h2⟩ := pr.defs j y hy
        exact ⟨fn', f', fd', ps', h1, Prog.ok pr n j y fn' f' fd' N' ps' q' st' h1 h2, h2.hm, h2.hf.kp, h2.bd⟩
      have co : CO N (defScope st) (defScope st) (fun cls d _ H => E cls d H) n X :=
        ⟨rfl, d.sc.nd, rfl, hr, rfl, takes_of rfl rfl rfl rfl, fun _ h => h, fun _ h => ⟨h, rfl⟩, passes_of rfl⟩
      refine ⟨_, sBk fn.body fe co d.ck, _, S, ι, sm, ?_, res_ok h⟩
      rw [d.ns]
      exact rlE_start r
/-- the promise of a def, to be called from the law's head -/
theorem Prog.fn {P : Program} {w : World} {K : PySem.W.Frag} {mg : Str → Option Value} {base : Heap} {tb : List Fn} {nm : List Str} {gv : Str → Option Dv} (pr : Prog K mg tb nm gv) (n : Nat) {i : Nat} {x : Str} (h : nm[i]? = some x) :
    ∃ fn f fd ps, tb[i]? = some fn ∧ FnOk P w K mg base (L2.CX P w) n f fd ps (spR K (run tb gv n) i fn.np) ∧ mg x = some (.ref f) ∧ PySem.W.keepIn K (.ref f) = true ∧ Binds K fd ps [] := by
  obtain ⟨fn, f, fd, N, ps, qual, st, h1, h2⟩ := pr.defs i x h
  exact ⟨fn, f, fd, ps, h1, pr.ok n i x fn f fd N ps qual st h1 h2, h2.hm, h2.hf.kp, h2.bd⟩
end Vm

set_option Elab.async false
set_option linter.all false
set_option maxRecDepth 100000
set_option maxHeartbeats 8000000
/-! VmL: from the top of a program to the runs of its defs. -/
namespace Vm
open PySem PySem.Spec L2

/-! ### constants of the module -/
mutual
def valB (K : PySem.W.Frag) : Dv → Value → Bool
  | .non, u => (match u with
    | .none => true
    | _ => false)
  | .bl b, u => (match u with
    | .bool c => b == c
    | _ => false)
  | .int i, u => (match u with
    | .int j _ => decide (i = j)
    | _ => false)
  | .str x, u => (match u with
    | .str y _ => decide (x = y)
    | _ => false)
  | .tup ds, u => (match u with
    | .ref a => (match K.lookup a with
      | some ⟨.type c, none, .seq its _, _⟩ => decide (c = "tuple") && (decide (its.size ≤ sizeLine) && valsB K ds its.toList)
      | _ => false)
    | _ => false)
  | .rol ds, u => (match u with
    | .ref a => (match K.lookup a with
      | some ⟨.type c, none, .seq its _, _⟩ => decide (c = "list") && (decide (its.size ≤ sizeLine) && valsB K ds its.toList)
      | _ => false)
    | _ => false)
  | .ref _, _ => false
  | .ty _, _ => false
def valsB (K : PySem.W.Frag) : List Dv → List Value → Bool
  | [], us => us.isEmpty
  | d :: ds, us => (match us with
    | u :: us => valB K d u && valsB K ds us
    | [] => false)
end
mutual
theorem valB_ok {K : PySem.W.Frag} : ∀ {d : Dv} {u : Value}, valB K d u = true → ∃ v, RelV v u ∧ ∀ H ι, Rl K H ι d v
  | .non, u, h => by
    unfold valB at h
    split at h
    · exact ⟨.non, rfl, fun _ _ => .non⟩
    · cases h
  | .bl b, u, h => by
    unfold valB at h
    split at h
    · rw [beq_iff_eq] at h
      subst h
      exact ⟨.bl b, rfl, fun _ _ => .bl _⟩
    · cases h
  | .int i, u, h => by
    unfold valB at h
    split at h
    · rw [decide_eq_true_eq] at h
      subst h
      exact ⟨.int i, ⟨_, rfl⟩, fun _ _ => .int _⟩
    · cases h
  | .str i, u, h => by
    unfold valB at h
    split at h
    · rw [decide_eq_true_eq] at h
      subst h
      exact ⟨.str i, ⟨_, rfl⟩, fun _ _ => .str _⟩
    · cases h
  | .tup ds, u, h => by
    unfold valB at h
    split at h
    · split at h
      · rename_i a oc c its n sl hk
        simp only [Bool.and_eq_true, decide_eq_true_eq] at h
        obtain ⟨h1, h2, h3⟩ := h
        obtain ⟨vs, r1, r2⟩ := valsB_ok h3
        exact ⟨.ref _, rfl, fun H ι => .tup (.inr ⟨_, _, _, hk, congrArg Value.type h1, rfl, rfl, h2, r1⟩) (r2 H ι)⟩
      · cases h
    · cases h
  | .rol ds, u, h => by
    unfold valB at h
    split at h
    · split at h
      · rename_i a oc c its n sl hk
        simp only [Bool.and_eq_true, decide_eq_true_eq] at h
        obtain ⟨h1, h2, h3⟩ := h
        obtain ⟨vs, r1, r2⟩ := valsB_ok h3
        exact ⟨.ref _, rfl, fun H ι => .rol (.inr ⟨_, _, _, hk, congrArg Value.type h1, rfl, rfl, h2, r1⟩) (r2 H ι)⟩
      · cases h
    · cases h
  | .ref _, u, h => by unfold valB at h; cases h
  | .ty _, u, h => by unfold valB at h; cases h
theorem valsB_ok {K : PySem.W.Frag} : ∀ {ds : List Dv} {us : List Value}, valsB K ds us = true → ∃ vs, Vals vs us ∧ ∀ H ι, Rls K H ι ds vs
  | [], us, h => by
    unfold valsB at h
    rw [List.isEmpty_iff] at h
    subst h
    exact ⟨[], .nil, fun _ _ => .nil⟩
  | d :: ds, us, h => by
    unfold valsB at h
    split at h
    · rw [Bool.and_eq_true] at h
      obtain ⟨v, r1, r2⟩ := valB_ok h.1
      obtain ⟨vs, r3, r4⟩ := valsB_ok h.2
      exact ⟨v :: vs, .cons r1 r3, fun H ι => .cons (r2 H ι) (r4 H ι)⟩
    · cases h
end
def cstB (cs : Cst) (K : PySem.W.Frag) : Bool := cs.all fun p => match PySem.W.nsIn K mainGlobals p.1 with
  | some (some u) => valB K p.2 u
  | _ => false
theorem gv_ok {cs : Cst} {K : PySem.W.Frag} {h : Heap} {mg : Str → Option Value} (X : K.In h) (G : h.Ns mainGlobals mg) (c : cstB cs K = true) (x : Str) (d : Dv) (e : gvOf cs x = some d) : ∃ v u, mg x = some u ∧ RelV v u ∧ ∀ H ι, Rl K H ι d v := by
  unfold gvOf at e
  cases q : cs.find? fun p => decide (p.1 = x) with
  | none => rw [q] at e; cases e
  | some p =>
    rw [q] at e
    cases e
    have hm := List.mem_of_find?_eq_some q
    have hx := of_decide_eq_true (List.find?_some (p := fun p : Str × Dv => decide (p.1 = x)) q)
    have h1 := List.all_eq_true.mp c p hm
    cases hn : PySem.W.nsIn K mainGlobals p.1 with
    | none => rw [hn] at h1; cases h1
    | some o =>
      cases o with
      | none => rw [hn] at h1; cases h1
      | some u =>
        rw [hn] at h1
        obtain ⟨v, r1, r2⟩ := valB_ok h1
        exact ⟨v, u, by rw [← hx]; exact PySem.W.mg_of X G hn, r1, r2⟩

/-! ### the defs, as the text has them -/
structure DefI where
  x : Str
  fn : Fn
  N : List Str
  ps : List Str
  st : Stmt
/-- a look at the names of a def's scope -/
def scopeB (N P : List Str) (sc : Scope) : Bool :=
  decide (sc.kind = .function) && !sc.isCoroutine && !sc.isGenerator && decide N.Nodup && decide (N.take P.length = P) && P.all (fun x => decide (sc.names.lookup x = some .local) || decide (sc.names.lookup x = some .cell)) && sc.names.all (fun y => !decide (y.2 = .free))
theorem scopeB_ok {N P : List Str} {sc : Scope} (h : scopeB N P sc = true) : FnScope N P sc := by
  unfold scopeB at h
  simp only [Bool.and_eq_true, Bool.not_eq_true', decide_eq_true_eq, List.all_eq_true, Bool.or_eq_true, decide_eq_false_iff_not] at h
  obtain ⟨⟨⟨⟨⟨⟨h1, h2⟩, h3⟩, h4⟩, h5⟩, h6⟩, h7⟩ := h
  exact ⟨h1, h2, h3, h4, h5, h6, h7⟩
def defB (nm : List Str) (d : DefI) : Bool := scopeB d.N d.ps (defScope d.st) && (decide (d.fn.np = d.ps.length) && (decide (d.fn.ns = d.N.length) && ckB d.N nm d.fn.body (defScope d.st) (defBody d.st)))
def BindsP (d : DefI) : Prop := ∀ (kV doc pm : Value) (an : Option Addr) (cdv ct : Value) (us : List Value), us.length = d.ps.length → bindArgs (PySem.W.fnOf d.x d.x (defArgs d.st) (defBody d.st) (defScope d.st) .none kV doc pm an cdv ct) ⟨us, []⟩ = pure (d.ps.zip us)
/-- every def of the list is as it says -/
def AllC (nm : List Str) : List DefI → Prop
  | [] => True
  | d :: r => (defB nm d = true ∧ BindsP d) ∧ AllC nm r
theorem AllC.at {nm : List Str} : ∀ {ds : List DefI} {i : Nat} {d : DefI}, AllC nm ds → ds[i]? = some d → defB nm d = true ∧ BindsP d
  | [], i, d, _, h => by simp at h
  | _ :: _, 0, d, a, h => by simp at h; subst h; exact a.1
  | _ :: _, i + 1, d, a, h => AllC.at (i := i) a.2 (by simpa using h)
def nmOf (ds : List DefI) : List Str := ds.map (·.x)
def tbOf (ds : List DefI) : List Fn := ds.map (·.fn)
def faOf (ds : List DefI) : List He.Fa := ds.map (fun d => .glo d.x) ++ bnames.map fun x => .free x
def fnOf' (ds : List DefI) : List He.DefD := ds.map fun d => ⟨(d.x, none), d.x, d.x, defArgs d.st, defBody d.st, defScope d.st, [], []⟩
def hkOf (ds : List DefI) (cs : Cst) : PySem.W.Hook := He.hookX 5 (faOf ds) (fnOf' ds) [] [] (cstB cs)
def obOf (ds : List DefI) (cs : Cst) (s : PySem.W.SharedT) : He.AlX := He.obsX 5 (faOf ds) (fnOf' ds) [] [] (cstB cs) (HandSHeadRun.getT s)
theorem obOf_eq (ds : List DefI) (cs : Cst) (s : PySem.W.SharedT) : obOf ds cs s = (hkOf ds cs).obs s.abs := He.obsX_eq (HandSHeadRun.getT_eq s)

theorem fun_of {K : PySem.W.Frag} {x qual : Str} {st : Stmt} {f : Addr} {fd : FuncData} (F : FunD K x qual (defArgs st) (defBody st) (defScope st) [] [] f fd) : Fun K x qual st f fd := by
  obtain ⟨oc, od, dV, kV, doc, pm, an, cdv, ct, osl, e, lk, hcd, hd, hk⟩ := F.ex
  rcases hd with ⟨_, rfl⟩ | ⟨e, _⟩
  · exact ⟨⟨oc, od, kV, doc, pm, an, cdv, ct, osl, e, lk, hcd⟩, F.kp⟩
  · exact absurd rfl e
section
variable {K : PySem.W.Frag} {h : Heap} {mg : Str → Option Value} {ds : List DefI} {cs : Cst}
theorem def_of (X : K.In h) (G : h.Ns mainGlobals mg) (a : AllC (nmOf ds) ds) (c : He.SaysD (faOf ds) (fnOf' ds) K) {i : Nat} {d : DefI} (hi : ds[i]? = some d) :
    ∃ f fd, DefOk K mg (nmOf ds) d.x d.fn f fd d.N d.ps d.x d.st ∧ ∀ (s : Shared) (us : List Value), us.length = d.ps.length → BindsTo s fd ⟨us, []⟩ (d.ps.zip us) := by
  have hm : d ∈ ds := List.mem_of_getElem? hi
  obtain ⟨h1, h2⟩ := a.at hi
  unfold defB at h1
  simp only [Bool.and_eq_true, decide_eq_true_eq] at h1
  obtain ⟨k1, k2, k3, k4⟩ := h1
  obtain ⟨fd, F⟩ := c.defs (d := ⟨(d.x, none), d.x, d.x, defArgs d.st, defBody d.st, defScope d.st, [], []⟩) (List.mem_map.mpr ⟨d, hm, rfl⟩)
  have F : FunD K d.x d.x (defArgs d.st) (defBody d.st) (defScope d.st) [] [] (He.ga K d.x) fd := F
  have g := He.glo_ok X G (c.facts (f := .glo d.x) (List.mem_append_left _ (List.mem_map.mpr ⟨d, hm, rfl⟩)))
  have bA := FunD.bindsA (ps := d.ps) F h2
  exact ⟨He.ga K d.x, fd, ⟨fun_of F, scopeB_ok k1, k2, k3, k4, g, F.bindsN h2⟩, fun s us hl => bA s us hl⟩
theorem prog_of (X : K.In h) (G : h.Ns mainGlobals mg) (a : AllC (nmOf ds) ds) (c : He.SaysD (faOf ds) (fnOf' ds) K) (hc : cstB cs K = true) : Prog K mg (tbOf ds) (nmOf ds) (gvOf cs) := by
  refine ⟨fun i x hx => ?_, gv_ok X G hc, fun x hx => He.free_ok X G (c.facts (f := .free x) (List.mem_append_right _ (List.mem_map.mpr ⟨x, hx, rfl⟩)))⟩
  unfold nmOf at hx
  rw [List.getElem?_map] at hx
  cases hd : ds[i]? with
  | none => rw [hd] at hx; cases hx
  | some d =>
    rw [hd] at hx
    cases hx
    obtain ⟨f, fd, h1, _⟩ := def_of X G a c hd
    exact ⟨d.fn, f, fd, d.N, d.ps, d.x, d.st, by unfold tbOf; rw [List.getElem?_map, hd]; rfl, h1⟩
end
/-- the end: the law's own def, at every script -/
theorem walk {l : PySem.W.OpenLaw} {q : Program} {loose : List Str} {XP : (Str → Option Value) → Heap → Prop} {d : PySem.DefRec} {ds : List DefI} {cs : Cst} (fuel : Nat) {n i : Nat} {x : Str} {di : DefI}
    (hn : l.most = some n) (hn2 : n ≤ sizeLine) (hdf : d.params.defaults = []) (hr : Room fuel PySem.callerA) (a : AllC (nmOf ds) ds) (hi : ds[i]? = some di) (hx : di.x = d.name) (hps : di.ps = [x])
    (goal : ∀ ns : List Int, ns.length ≤ n → ∃ S', run (tbOf ds) (gvOf cs) fuel i [.rol (ns.map .int)] [] = .ok (.bl true) S') :
    PySem.W.WalkO q loose XP (hkOf ds cs).says l.row.toRowW d [] (fun f vs => PySem.call f vs) := by
  refine Att.attach_call hn hdf fun w s₀ s₁ mg mb fa o pm cd doc a' vs ns G Y ho hd hcd hmg hobj hints hlen hg => ?_
  obtain ⟨K, KX, c⟩ := Y
  have cd' := c.t.d
  obtain ⟨f, fd, D, hb⟩ := def_of (mg := mg) KX G.T.g a cd' hi
  have pr : Prog K mg (tbOf ds) (nmOf ds) (gvOf cs) := prog_of KX G.T.g a cd' c.more
  rw [← hx] at hmg
  have e := hmg.symm.trans D.hm
  cases e
  have ht : (tbOf ds)[i]? = some di.fn := by unfold tbOf; rw [List.getElem?_map, hi]; rfl
  have hF := fun base => Prog.ok (P := l.prog) (w := w) (base := base) pr fuel i di.x di.fn _ fd di.N di.ps di.x di.st ht D
  rw [hps] at hF
  refine law_call KX G.T.g G.T.b G.T.builtins G.T.nolimit hg hobj hints (Nat.le_trans hlen hn2) hr (fun base _ _ => hF base) (fun s u => by have := hb s [u] (by rw [hps]; rfl); rw [hps] at this; exact this) (fun H hO hS => ?_) fun H e s' z => ?_
  · obtain ⟨S', hrun⟩ := goal ns hlen
    have hR : IsR K H a' (ns.map V.int) := by
      rcases hS with (h1 | ⟨o, h1⟩) | h1
      · rcases hO a' with h2 | ⟨o, xs, h2⟩
        · rw [h1] at h2; cases h2
        · rw [h1] at h2; cases h2
      · exact .inl ⟨o, h1⟩
      · exact .inr h1
    refine ⟨[], [], [.rol (ns.map .int)], ⟨rfl, fun n c a h => by simp at h, fun m n c d a h => by simp at h⟩, .cons (.rol hR (Rls.ints ns)) .nil, by rw [D.np, hps]; rfl, ?_⟩
    rw [hrun]
    intro v H' ι' _ _ r
    cases r
    rfl
  · obtain ⟨_, _, _, _, _, _, _, _, _, _, _, _, z⟩ := z
    exact z.elim
end Vm

set_option Elab.async false
set_option linter.all false
set_option maxRecDepth 100000
set_option maxHeartbeats 4000000
/-! VmM: rules to run code by. -/
namespace Vm
open PySem

section
variable {cl : Nat → List Dv → Sto → Res Dv} {gv : Str → Option Dv} {ρ ρ1 ρ2 ρ' : Envr} {S S1 S2 S3 S4 S' : Sto}
/-! ### expressions -/
theorem e_cst {d : Dv} : ev cl gv (.cst d) ρ S = .ok d S := by rw [ev]
theorem e_var {i : Nat} {d : Dv} (h : ρ[i]? = some (some d)) : ev cl gv (.var i) ρ S = .ok d S := by rw [ev, h]
theorem e_bty {x : String} : ev cl gv (.bty x) ρ S = .ok (.ty x) S := by rw [ev]
theorem e_gl {x : Str} {d : Dv} (h : gv x = some d) : ev cl gv (.gl x) ρ S = .ok d S := by rw [ev, h]
theorem e_bin {o : Operator} {a b : Ec} {x y : Dv} {r : Res Dv} (h1 : ev cl gv a ρ S = .ok x S1) (h2 : ev cl gv b ρ S1 = .ok y S2) (h3 : binop o x y S2 = r) : ev cl gv (.bin o a b) ρ S = r := by
  rw [ev, h1, Res.bind_ok, h2, Res.bind_ok, h3]
theorem e_neg {a : Ec} {i : Int} (h1 : ev cl gv a ρ S = .ok (.int i) S1) : ev cl gv (.neg a) ρ S = .ok (.int (-i)) S1 := by
  rw [ev, h1]
  rfl
theorem e_cmp {o : CmpOp} {a b : Ec} {x y : Dv} {r : Res Dv} (h1 : ev cl gv a ρ S = .ok x S1) (h2 : ev cl gv b ρ S1 = .ok y S2) (h3 : cmpop o x y S2 = r) : ev cl gv (.cmp o a b) ρ S = r := by
  rw [ev, h1, Res.bind_ok, h2, Res.bind_ok, h3]
theorem e_nt {a : Ec} {i : Bool} (h1 : ev cl gv a ρ S = .ok (.bl i) S1) : ev cl gv (.nt a) ρ S = .ok (.bl (!i)) S1 := by
  rw [ev, h1]
  rfl
theorem e_tup {es : Es} {xs : List Dv} (h1 : evs cl gv es ρ S = .ok xs S1) (h2 : xs.length ≤ LIM := by exact Nat.le_of_ble_eq_true rfl) : ev cl gv (.tup es) ρ S = .ok (.tup xs) S1 := by
  rw [ev, h1, Res.bind_ok, if_pos h2]
theorem e_lst {es : Es} {xs : List Dv} (h1 : evs cl gv es ρ S = .ok xs S1) (h2 : xs.length ≤ LIM := by exact Nat.le_of_ble_eq_true rfl) : ev cl gv (.lst es) ρ S = .ok (.ref S1.length) (S1 ++ [.lst xs]) := by
  rw [ev, h1, Res.bind_ok, if_pos h2]
  rfl
theorem e_dct {ps : Ps} {kvs : List (Key × Dv)} (h1 : evp cl gv ps ρ S = .ok kvs S1) (h2 : kvs.length ≤ 15 := by exact Nat.le_of_ble_eq_true rfl) : ev cl gv (.dct ps) ρ S = .ok (.ref S1.length) (S1 ++ [.dct (mergeD [] kvs)]) := by
  rw [ev, h1, Res.bind_ok, if_pos h2]
  rfl
theorem e_call {f : Nat} {es : Es} {xs : List Dv} {r : Res Dv} (h1 : evs cl gv es ρ S = .ok xs S1) (h2 : cl f xs S1 = r) : ev cl gv (.call f es) ρ S = r := by
  rw [ev, h1, Res.bind_ok, h2]
theorem e_blt {b : Blt} {es : Es} {xs : List Dv} {r : Res Dv} (h1 : evs cl gv es ρ S = .ok xs S1) (h2 : bltop b xs S1 = r) : ev cl gv (.blt b es) ρ S = r := by
  rw [ev, h1, Res.bind_ok, h2]
theorem e_mth {m : Mth} {a : Ec} {es : Es} {x : Dv} {xs : List Dv} {r : Res Dv} (h1 : ev cl gv a ρ S = .ok x S1) (h2 : mty m x S1 = true) (h3 : evs cl gv es ρ S1 = .ok xs S2) (h4 : mthop m x xs S2 = r) : ev cl gv (.mth m a es) ρ S = r := by
  rw [ev, h1, Res.bind_ok, if_pos h2, h3, Res.bind_ok, h4]
theorem e_ix {a b : Ec} {x y : Dv} {r : Res Dv} (h1 : ev cl gv a ρ S = .ok x S1) (h2 : ev cl gv b ρ S1 = .ok y S2) (h3 : ixop x y S2 = r) : ev cl gv (.ix a b) ρ S = r := by
  rw [ev, h1, Res.bind_ok, h2, Res.bind_ok, h3]
theorem e_sl {a : Ec} {lo hi : Po} {x : Dv} {l h : Option Int} {r : Res Dv} (h1 : ev cl gv a ρ S = .ok x S1) (h2 : evpo cl gv lo ρ S1 = .ok l S2) (h3 : evpo cl gv hi ρ S2 = .ok h S3) (h4 : slop x l h S3 = r) : ev cl gv (.sl a lo hi) ρ S = r := by
  rw [ev, h1, Res.bind_ok, h2, Res.bind_ok, h3, Res.bind_ok, h4]
theorem e_po0 : evpo cl gv .none ρ S = .ok none S := by rw [evpo]
theorem e_po1 {a : Ec} {i : Int} (h1 : ev cl gv a ρ S = .ok (.int i) S1) : evpo cl gv (.one a) ρ S = .ok (some i) S1 := by
  rw [evpo, h1]
  rfl
theorem es_nil : evs cl gv .nil ρ S = .ok [] S := by rw [evs]
theorem es_cons {e : Ec} {r : Es} {x : Dv} {xs : List Dv} (h1 : ev cl gv e ρ S = .ok x S1) (h2 : evs cl gv r ρ S1 = .ok xs S2) : evs cl gv (.cons e r) ρ S = .ok (x :: xs) S2 := by
  rw [evs, h1, Res.bind_ok, h2]
  rfl
theorem ep_nil : evp cl gv .nil ρ S = .ok [] S := by rw [evp]
theorem ep_cons {k v : Ec} {r : Ps} {x y : Dv} {q : Key} {xs : List (Key × Dv)} (h1 : ev cl gv k ρ S = .ok x S1) (h2 : ev cl gv v ρ S1 = .ok y S2) (h3 : evp cl gv r ρ S2 = .ok xs S3) (h4 : keyv x = some q) : evp cl gv (.cons k v r) ρ S = .ok ((q, y) :: xs) S3 := by
  rw [evp, h1, Res.bind_ok, h2, Res.bind_ok, h3, Res.bind_ok, h4]
/-- and, or: as values -/
theorem e_bo {o : BoolOp} {es : Es} {r : Res Dv} (h : evb cl gv o es ρ S = r) : ev cl gv (.bo o es) ρ S = r := by rw [ev, h]
theorem eb_one {o : BoolOp} {e : Ec} {r : Res Dv} (h : ev cl gv e ρ S = r) : evb cl gv o (.cons e .nil) ρ S = r := by rw [evb, h]
theorem eb_and_t {e e2 : Ec} {es : Es} {r : Res Dv} (h : ev cl gv e ρ S = .ok (.bl true) S1) (h2 : evb cl gv .And (.cons e2 es) ρ S1 = r) : evb cl gv .And (.cons e (.cons e2 es)) ρ S = r := by
  rw [← h2]
  simp only [evb, h, Res.bind_ok, if_true]
theorem eb_and_f {e e2 : Ec} {es : Es} (h : ev cl gv e ρ S = .ok (.bl false) S1) : evb cl gv .And (.cons e (.cons e2 es)) ρ S = .ok (.bl false) S1 := by
  simp only [evb, h, Res.bind_ok, Bool.false_eq_true, if_false]
theorem eb_or_f {e e2 : Ec} {es : Es} {r : Res Dv} (h : ev cl gv e ρ S = .ok (.bl false) S1) (h2 : evb cl gv .Or (.cons e2 es) ρ S1 = r) : evb cl gv .Or (.cons e (.cons e2 es)) ρ S = r := by
  rw [← h2]
  simp only [evb, h, Res.bind_ok, Bool.false_eq_true, if_false]
theorem eb_or_t {e e2 : Ec} {es : Es} (h : ev cl gv e ρ S = .ok (.bl true) S1) : evb cl gv .Or (.cons e (.cons e2 es)) ρ S = .ok (.bl true) S1 := by
  simp only [evb, h, Res.bind_ok, if_true]
/-- both sides do not change anything: the values' and, or -/
theorem eb_and {e e2 : Ec} {es : Es} {p q : Bool} (h : ev cl gv e ρ S = .ok (.bl p) S) (h2 : p = true → evb cl gv .And (.cons e2 es) ρ S = .ok (.bl q) S) : evb cl gv .And (.cons e (.cons e2 es)) ρ S = .ok (.bl (p && q)) S := by
  cases p with
  | true => exact eb_and_t h (h2 rfl)
  | false => exact eb_and_f h
theorem eb_or {e e2 : Ec} {es : Es} {p q : Bool} (h : ev cl gv e ρ S = .ok (.bl p) S) (h2 : p = false → evb cl gv .Or (.cons e2 es) ρ S = .ok (.bl q) S) : evb cl gv .Or (.cons e (.cons e2 es)) ρ S = .ok (.bl (p || q)) S := by
  cases p with
  | true => exact eb_or_t h
  | false => exact eb_or_f h (h2 rfl)
/-! ### tests -/
theorem t_cmp {o : CmpOp} {a b : Ec} {x y : Dv} {k : Bool} (h1 : ev cl gv a ρ S = .ok x S1) (h2 : ev cl gv b ρ S1 = .ok y S2) (h3 : cmpop o x y S2 = .ok (.bl k) S3) : tst cl gv (.cmp o a b) ρ S = .ok k S3 := by
  rw [tst, h1, Res.bind_ok, h2, Res.bind_ok, h3]
  rfl
theorem t_nt {t : Tc} {k : Bool} (h : tst cl gv t ρ S = .ok k S1) : tst cl gv (.nt t) ρ S = .ok (!k) S1 := by
  rw [tst, h]
  rfl
theorem t_tr {e : Ec} {x : Dv} {k : Bool} (h : ev cl gv e ρ S = .ok x S1) (h2 : truth S1 x = some k) : tst cl gv (.tr e) ρ S = .ok k S1 := by
  rw [tst, h, Res.bind_ok, h2]
theorem t_bo {o : BoolOp} {ts : Ts} {r : Res Bool} (h : tsb cl gv o ts ρ S = r) : tst cl gv (.bo o ts) ρ S = r := by rw [tst, h]
theorem tb_one {o : BoolOp} {t : Tc} {r : Res Bool} (h : tst cl gv t ρ S = r) : tsb cl gv o (.cons t .nil) ρ S = r := by rw [tsb, h]
theorem tb_and_t {t t2 : Tc} {ts : Ts} {r : Res Bool} (h : tst cl gv t ρ S = .ok true S1) (h2 : tsb cl gv .And (.cons t2 ts) ρ S1 = r) : tsb cl gv .And (.cons t (.cons t2 ts)) ρ S = r := by
  rw [← h2]
  simp only [tsb, h, Res.bind_ok, if_true]
theorem tb_and_f {t t2 : Tc} {ts : Ts} (h : tst cl gv t ρ S = .ok false S1) : tsb cl gv .And (.cons t (.cons t2 ts)) ρ S = .ok false S1 := by
  simp only [tsb, h, Res.bind_ok, Bool.false_eq_true, if_false]
theorem tb_or_f {t t2 : Tc} {ts : Ts} {r : Res Bool} (h : tst cl gv t ρ S = .ok false S1) (h2 : tsb cl gv .Or (.cons t2 ts) ρ S1 = r) : tsb cl gv .Or (.cons t (.cons t2 ts)) ρ S = r := by
  rw [← h2]
  simp only [tsb, h, Res.bind_ok, Bool.false_eq_true, if_false]
theorem tb_or_t {t t2 : Tc} {ts : Ts} (h : tst cl gv t ρ S = .ok true S1) : tsb cl gv .Or (.cons t (.cons t2 ts)) ρ S = .ok true S1 := by
  simp only [tsb, h, Res.bind_ok, if_true]
/-! ### targets, walks -/
theorem a_nm {i : Nat} {d : Dv} : asn cl gv (.nm i) d ρ S = .ok (ρ.set i (some d)) S := by rw [asn]
theorem a_tup {gs : Gs} {xs : List Dv} {r : Res Envr} (hl : xs.length = gs.len := by rfl) (h : asns cl gv gs xs ρ S = r) : asn cl gv (.tup gs) (.tup xs) ρ S = r := by
  rw [asn, if_pos hl, h]
theorem a_ix {a b : Ec} {x y d : Dv} (h1 : ev cl gv a ρ S = .ok x S1) (h2 : ev cl gv b ρ S1 = .ok y S2) (h3 : setop x y d S2 = .ok () S3) : asn cl gv (.ix a b) d ρ S = .ok ρ S3 := by
  rw [asn, h1, Res.bind_ok, h2, Res.bind_ok, h3]
  rfl
theorem as_nil : asns cl gv .nil [] ρ S = .ok ρ S := by rw [asns]
theorem as_cons {g : Gc} {r : Gs} {x : Dv} {xs : List Dv} (h1 : asn cl gv g x ρ S = .ok ρ1 S1) (h2 : asns cl gv r xs ρ1 S1 = .ok ρ2 S2) : asns cl gv (.cons g r) (x :: xs) ρ S = .ok ρ2 S2 := by
  rw [asns, h1, Res.bind_ok, h2]
  rfl
theorem i_e {e : Ec} {x : Dv} {r : Res Wk} (h1 : ev cl gv e ρ S = .ok x S1) (h2 : walkop x S1 = r) : evi cl gv (.e e) ρ S = r := by rw [evi, h1, Res.bind_ok, h2]
theorem i_rng {es : Es} {xs : List Dv} {r : Res Wk} (h1 : evs cl gv es ρ S = .ok xs S1) (h2 : rngop xs S1 = r) : evi cl gv (.rng es) ρ S = r := by rw [evi, h1, Res.bind_ok, h2]
theorem i_items {e : Ec} {x : Dv} {r : Res Wk} (h1 : ev cl gv e ρ S = .ok x S1) (h2 : itemsop x S1 = r) : evi cl gv (.items e) ρ S = r := by rw [evi, h1, Res.bind_ok, h2]
theorem o_none : evo cl gv .none ρ S = .ok true S := by rw [evo]
theorem o_one {t : Tc} {r : Res Bool} (h : tst cl gv t ρ S = r) : evo cl gv (.one t) ρ S = r := by rw [evo, h]
/-! ### statements -/
theorem s_asg {g : Gc} {e : Ec} {x : Dv} (h1 : ev cl gv e ρ S = .ok x S1) (h2 : asn cl gv g x ρ S1 = .ok ρ' S2) : exS cl gv (.asg g e) ρ S = .nx ρ' S2 := by
  rw [exS, h1, Res.out_ok, h2, Res.out_ok]
theorem s_aug {i : Nat} {o : Operator} {e : Ec} {x y z : Dv} (h0 : ρ[i]? = some (some x)) (h1 : ev cl gv e ρ S = .ok y S1) (h2 : augop o x y S1 = .ok z S2) : exS cl gv (.aug i o e) ρ S = .nx (ρ.set i (some z)) S2 := by
  rw [exS, h0]
  show ((ev cl gv e ρ S).out ρ fun y S1 => _) = _
  rw [h1, Res.out_ok, h2, Res.out_ok]
theorem s_ex {e : Ec} {x : Dv} (h1 : ev cl gv e ρ S = .ok x S1) : exS cl gv (.ex e) ρ S = .nx ρ S1 := by rw [exS, h1, Res.out_ok]
theorem s_ret {e : Ec} {x : Dv} (h1 : ev cl gv e ρ S = .ok x S1) : exS cl gv (.ret e) ρ S = .rt x S1 := by rw [exS, h1, Res.out_ok]
theorem s_retn : exS cl gv .retn ρ S = .rt .non S := by rw [exS]
theorem s_ite {t : Tc} {a b : Bc} {k : Bool} {o : Out} (h1 : tst cl gv t ρ S = .ok k S1) (ht : k = true → exB cl gv a ρ S1 = o) (hf : k = false → exB cl gv b ρ S1 = o) : exS cl gv (.ite t a b) ρ S = o := by
  rw [exS, h1, Res.out_ok]
  cases k with
  | true => rw [if_pos rfl]; exact ht rfl
  | false => rw [if_neg (by decide)]; exact hf rfl
theorem s_ite_t {t : Tc} {a b : Bc} {o : Out} (h1 : tst cl gv t ρ S = .ok true S1) (ht : exB cl gv a ρ S1 = o) : exS cl gv (.ite t a b) ρ S = o := by
  rw [exS, h1, Res.out_ok, if_pos rfl, ht]
theorem s_ite_f {t : Tc} {a b : Bc} {o : Out} (h1 : tst cl gv t ρ S = .ok false S1) (hf : exB cl gv b ρ S1 = o) : exS cl gv (.ite t a b) ρ S = o := by
  rw [exS, h1, Res.out_ok, if_neg (by decide), hf]
theorem b_nil : exB cl gv .nil ρ S = .nx ρ S := by rw [exB]
theorem b_nx {s : Sc} {r : Bc} {o : Out} (h1 : exS cl gv s ρ S = .nx ρ1 S1) (h2 : exB cl gv r ρ1 S1 = o) : exB cl gv (.cons s r) ρ S = o := by
  rw [exB, h1]
  exact h2
theorem b_rt {s : Sc} {r : Bc} {d : Dv} (h1 : exS cl gv s ρ S = .rt d S1) : exB cl gv (.cons s r) ρ S = .rt d S1 := by rw [exB, h1]
theorem b_ct {s : Sc} {r : Bc} (h1 : exS cl gv s ρ S = .ct ρ1 S1) : exB cl gv (.cons s r) ρ S = .ct ρ1 S1 := by rw [exB, h1]
theorem b_bk {s : Sc} {r : Bc} (h1 : exS cl gv s ρ S = .bk ρ1 S1) : exB cl gv (.cons s r) ρ S = .bk ρ1 S1 := by rw [exB, h1]
/-! ### loops -/
theorem free_none {xs : List Dv} {src : Option (Nat × Cel)} (o : Out) : o.free ⟨xs, src, none⟩ = o := by
  cases o <;> simp [Out.free, Wk.locked, Wk.freeS]
/-- a for loop, by its invariant: as many turns as there are items -/
theorem for_inv {w : Wk} {turn : Envr → Dv → Sto → Out} (I : Nat → Envr → Sto → Prop) (xs : List Dv) :
    ∀ (k : Nat) {ρ : Envr} {S : Sto}, I k ρ S → (∀ i ρ S, i ≤ k + xs.length → I i ρ S → w.live S) →
      (∀ i x ρ S, xs[i]? = some x → I (k + i) ρ S → ∃ ρ' S', (turn ρ x S = .nx ρ' S' ∨ turn ρ x S = .ct ρ' S') ∧ I (k + i + 1) ρ' S') →
      ∃ ρ' S', forL w turn xs ρ S = .nx ρ' S' ∧ I (k + xs.length) ρ' S' := by
  induction xs with
  | nil =>
    intro k ρ S h hl _
    refine ⟨ρ, S, ?_, h⟩
    rw [forL, if_pos (hl k ρ S (Nat.le_refl _) h)]
  | cons x r ih =>
    intro k ρ S h hl hs
    obtain ⟨ρ1, S1, ht, h1⟩ := hs 0 x ρ S rfl h
    obtain ⟨ρ2, S2, h2, h3⟩ := ih (k + 1) h1 (fun i ρ S hi => hl i ρ S (by rw [List.length_cons]; omega)) (fun i y ρ S hy hI => by
      have e : k + (i + 1) = k + 1 + i := by omega
      have := hs (i + 1) y ρ S (by simpa using hy) (by rw [e]; exact hI)
      rw [e] at this
      exact this)
    refine ⟨ρ2, S2, ?_, by rw [List.length_cons, show k + (r.length + 1) = k + 1 + r.length by omega]; exact h3⟩
    rw [forL, if_pos (hl k ρ S (by omega) h)]
    rcases ht with ht | ht
    · rw [ht]; exact h2
    · rw [ht]; exact h2
theorem s_for {g : Gc} {it : Ic} {b : Bc} {xs : List Dv} {src : Option (Nat × Cel)} (I : Nat → Envr → Sto → Prop) (hi : evi cl gv it ρ S = .ok ⟨xs, src, none⟩ S1) (h0 : I 0 ρ S1)
    (hl : ∀ i ρ S, i ≤ xs.length → I i ρ S → (⟨xs, src, none⟩ : Wk).live S)
    (hs : ∀ i x ρ S, xs[i]? = some x → I i ρ S → ∃ ρ1 S1, asn cl gv g x ρ S = .ok ρ1 S1 ∧ ∃ ρ' S', (exB cl gv b ρ1 S1 = .nx ρ' S' ∨ exB cl gv b ρ1 S1 = .ct ρ' S') ∧ I (i + 1) ρ' S') :
    ∃ ρ' S', exS cl gv (.fr g it b) ρ S = .nx ρ' S' ∧ I xs.length ρ' S' := by
  obtain ⟨ρ', S', h1, h2⟩ := for_inv (w := ⟨xs, src, none⟩) (turn := fun ρ1 x S2 => (asn cl gv g x ρ1 S2).out ρ1 fun ρ2 S3 => exB cl gv b ρ2 S3) I xs 0 h0 (fun i ρ S hi => hl i ρ S (by omega)) (fun i x ρ S hx hI => by
    rw [Nat.zero_add] at hI ⊢
    obtain ⟨ρ1, S1, e1, ρ', S', e2, h⟩ := hs i x ρ S hx hI
    refine ⟨ρ', S', ?_, h⟩
    show (Res.out _ _ _ = _) ∨ (Res.out _ _ _ = _)
    rw [e1, Res.out_ok]
    exact e2)
  refine ⟨ρ', S', ?_, by simpa using h2⟩
  rw [exS, hi, Res.out_ok, free_none]
  exact h1
/-- the items of a dict that is locked meanwhile -/
theorem s_fori {g : Gc} {e : Ec} {b : Bc} {m : Nat} {kvs : List (Key × Dv)} (I : Nat → Envr → Sto → Prop) (hi : ev cl gv e ρ S = .ok (.ref m) S1) (hm : S1[m]? = some (.dct kvs)) (h0 : I 0 ρ (S1.set m (.fd kvs)))
    (hl : ∀ i ρ S, i ≤ kvs.length → I i ρ S → S[m]? = some (.fd kvs))
    (hs : ∀ i kv ρ S, kvs[i]? = some kv → I i ρ S → ∃ ρ1 S1, asn cl gv g (.tup [kD kv.1, kv.2]) ρ S = .ok ρ1 S1 ∧ ∃ ρ' S', (exB cl gv b ρ1 S1 = .nx ρ' S' ∨ exB cl gv b ρ1 S1 = .ct ρ' S') ∧ I (i + 1) ρ' S') :
    ∃ ρ' S', exS cl gv (.fr g (.items e) b) ρ S = .nx ρ' (S'.set m (.dct kvs)) ∧ I kvs.length ρ' S' := by
  have hlen : (kvs.map fun kv => Dv.tup [kD kv.1, kv.2]).length = kvs.length := List.length_map ..
  obtain ⟨ρ', S', h1, h2⟩ := for_inv (w := ⟨kvs.map fun kv => .tup [kD kv.1, kv.2], some (m, .fd kvs), some (m, kvs)⟩) (turn := fun ρ1 x S2 => (asn cl gv g x ρ1 S2).out ρ1 fun ρ2 S3 => exB cl gv b ρ2 S3) I (kvs.map fun kv => .tup [kD kv.1, kv.2]) 0 h0
    (fun i ρ S hi => hl i ρ S (by omega)) (fun i x ρ S hx hI => by
    rw [Nat.zero_add] at hI ⊢
    rw [List.getElem?_map] at hx
    cases hk : kvs[i]? with
    | none => rw [hk] at hx; cases hx
    | some kv =>
      rw [hk] at hx
      cases hx
      obtain ⟨ρ1, S1, e1, ρ', S', e2, h⟩ := hs i kv ρ S hk hI
      refine ⟨ρ', S', ?_, h⟩
      show (Res.out _ _ _ = _) ∨ (Res.out _ _ _ = _)
      rw [e1, Res.out_ok]
      exact e2)
  rw [Nat.zero_add, hlen] at h2
  refine ⟨ρ', S', ?_, h2⟩
  have hw : itemsop (.ref m) S1 = .ok ⟨kvs.map fun kv => .tup [kD kv.1, kv.2], some (m, .fd kvs), some (m, kvs)⟩ S1 := by
    unfold itemsop
    simp only [hm]
  rw [exS, evi, hi, Res.bind_ok, hw, Res.out_ok]
  show (forL _ _ _ ρ (S1.set m (.fd kvs))).free _ = _
  rw [h1]
  have hk : (⟨kvs.map fun kv => .tup [kD kv.1, kv.2], some (m, .fd kvs), some (m, kvs)⟩ : Wk).locked S' := hl kvs.length ρ' S' (Nat.le_refl _) h2
  simp only [Out.free]
  rw [if_pos hk]
  rfl
/-- a list comprehension, by its invariant -/
theorem lc_inv {w : Wk} {turn : Dv → Sto → Res (Option Dv)} (I : Nat → List Dv → Sto → Prop) (xs : List Dv) :
    ∀ (k : Nat) {acc : List Dv} {S : Sto}, I k acc S → (∀ i acc S, i ≤ k + xs.length → I i acc S → w.live S ∧ (i < k + xs.length → acc.length < LIM)) →
      (∀ i x acc S, xs[i]? = some x → I (k + i) acc S → ∃ o S', turn x S = .ok o S' ∧ match o with
        | some y => I (k + i + 1) (acc ++ [y]) S'
        | none => I (k + i + 1) acc S') →
      ∃ ys S', lcL w turn xs acc S = .ok ys S' ∧ I (k + xs.length) ys S' := by
  induction xs with
  | nil =>
    intro k acc S h hl _
    refine ⟨acc, S, ?_, h⟩
    rw [lcL, if_pos (hl k acc S (Nat.le_refl _) h).1]
  | cons x r ih =>
    intro k acc S h hl hs
    obtain ⟨o, S1, ht, h1⟩ := hs 0 x acc S rfl h
    have hl' := hl k acc S (by omega) h
    have step : ∀ acc1, I (k + 1) acc1 S1 → ∃ ys S', lcL w turn r acc1 S1 = .ok ys S' ∧ I (k + (x :: r).length) ys S' := fun acc1 h1 => by
      obtain ⟨ys, S2, h2, h3⟩ := ih (k + 1) h1 (fun i acc S hi hI => by
        have := hl i acc S (by rw [List.length_cons]; omega) hI
        exact ⟨this.1, fun h => this.2 (by rw [List.length_cons]; omega)⟩) (fun i y acc S hy hI => by
        have e : k + (i + 1) = k + 1 + i := by omega
        have := hs (i + 1) y acc S (by simpa using hy) (by rw [e]; exact hI)
        rw [e] at this
        exact this)
      exact ⟨ys, S2, h2, by rw [List.length_cons, show k + (r.length + 1) = k + 1 + r.length by omega]; exact h3⟩
    have hc : w.live S ∧ acc.length < LIM := ⟨hl'.1, hl'.2 (by rw [List.length_cons]; omega)⟩
    cases o with
    | some y =>
      obtain ⟨ys, S2, h2, h3⟩ := step (acc ++ [y]) h1
      refine ⟨ys, S2, ?_, h3⟩
      rw [lcL, if_pos hc, ht]
      exact h2
    | none =>
      obtain ⟨ys, S2, h2, h3⟩ := step acc h1
      refine ⟨ys, S2, ?_, h3⟩
      rw [lcL, if_pos hc, ht]
      exact h2
theorem e_lc {own : List (Str × Nat)} {g : Gc} {it : Ic} {ifs : Oc} {e : Ec} {xs : List Dv} {src : Option (Nat × Cel)} (I : Nat → List Dv → Sto → Prop) (hi : evi cl gv it ρ S = .ok ⟨xs, src, none⟩ S1) (h0 : I 0 [] S1)
    (hl : ∀ i acc S, i ≤ xs.length → I i acc S → (⟨xs, src, none⟩ : Wk).live S ∧ (i < xs.length → acc.length < LIM))
    (hs : ∀ i x acc S, xs[i]? = some x → I i acc S → ∃ ρ1 S1, asn cl gv g x (wipe ρ (own.map (·.2))) S = .ok ρ1 S1 ∧ ∃ b S2, evo cl gv ifs ρ1 S1 = .ok b S2 ∧
      ((b = true ∧ ∃ y S3, ev cl gv e ρ1 S2 = .ok y S3 ∧ I (i + 1) (acc ++ [y]) S3) ∨ (b = false ∧ I (i + 1) acc S2))) :
    ∃ ys S', ev cl gv (.lc own g it ifs e) ρ S = .ok (.ref S'.length) (S' ++ [.lst ys]) ∧ I xs.length ys S' := by
  obtain ⟨ys, S', h1, h2⟩ := lc_inv (w := ⟨xs, src, none⟩) (turn := fun x S2 => (asn cl gv g x (wipe ρ (own.map (·.2))) S2).bind fun ρ' S3 => (evo cl gv ifs ρ' S3).bind fun b S4 =>
        if b = true then (ev cl gv e ρ' S4).bind fun y S5 => .ok (some y) S5 else .ok none S4) I xs 0 h0 (fun i acc S hi hI => by
      have := hl i acc S (by omega) hI
      exact ⟨this.1, fun h => this.2 (by omega)⟩) (fun i x acc S hx hI => by
    rw [Nat.zero_add] at hI ⊢
    obtain ⟨ρ1, S1, e1, b, S2, e2, h⟩ := hs i x acc S hx hI
    rcases h with ⟨rfl, y, S3, e3, h⟩ | ⟨rfl, h⟩
    · refine ⟨some y, S3, ?_, h⟩
      rw [e1, Res.bind_ok, e2, Res.bind_ok, if_pos rfl, e3, Res.bind_ok]
    · refine ⟨none, S2, ?_, h⟩
      rw [e1, Res.bind_ok, e2, Res.bind_ok, if_neg (by decide)])
  refine ⟨ys, S', ?_, by simpa using h2⟩
  rw [ev, hi, Res.bind_ok]
  show ((lcL _ _ xs [] S1).calm.bind fun acc S6 => new (.lst acc) S6) = _
  rw [h1]
  rfl
/-- .. that changes nothing else: a map over the items -/
theorem e_lc_map {own : List (Str × Nat)} {g : Gc} {it : Ic} {e : Ec} {xs : List Dv} {src : Option (Nat × Cel)} (f : Dv → Dv) (hi : evi cl gv it ρ S = .ok ⟨xs, src, none⟩ S1) (hlv : (⟨xs, src, none⟩ : Wk).live S1) (hlen : xs.length ≤ LIM)
    (hs : ∀ x ∈ xs, ∃ ρ1, asn cl gv g x (wipe ρ (own.map (·.2))) S1 = .ok ρ1 S1 ∧ ev cl gv e ρ1 S1 = .ok (f x) S1) :
    ev cl gv (.lc own g it .none e) ρ S = .ok (.ref S1.length) (S1 ++ [.lst (xs.map f)]) := by
  obtain ⟨ys, S', h1, h2, h3⟩ := e_lc (e := e) (ifs := .none) (own := own) (g := g) (fun i acc S => acc = (xs.take i).map f ∧ S = S1) hi ⟨rfl, rfl⟩ (fun i acc S hi ⟨h1, h2⟩ => by
    subst h2
    refine ⟨hlv, fun h => ?_⟩
    rw [h1, List.length_map, List.length_take]
    omega) (fun i x acc S hx ⟨h1, h2⟩ => by
    subst h2
    obtain ⟨ρ1, q1, q2⟩ := hs x (List.mem_of_getElem? hx)
    refine ⟨ρ1, S, q1, true, S, o_none, .inl ⟨rfl, f x, S, q2, ?_, rfl⟩⟩
    rw [h1, List.take_add_one, hx, List.map_append]
    rfl)
  rw [h1, h3, h2, List.take_length]
/-- .. with a test -/
theorem e_lc_filter {own : List (Str × Nat)} {g : Gc} {it : Ic} {t : Tc} {e : Ec} {xs : List Dv} {src : Option (Nat × Cel)} (p : Dv → Bool) (f : Dv → Dv) (hi : evi cl gv it ρ S = .ok ⟨xs, src, none⟩ S1) (hlv : (⟨xs, src, none⟩ : Wk).live S1) (hlen : xs.length ≤ LIM)
    (hs : ∀ x ∈ xs, ∃ ρ1, asn cl gv g x (wipe ρ (own.map (·.2))) S1 = .ok ρ1 S1 ∧ tst cl gv t ρ1 S1 = .ok (p x) S1 ∧ (p x = true → ev cl gv e ρ1 S1 = .ok (f x) S1)) :
    ev cl gv (.lc own g it (.one t) e) ρ S = .ok (.ref S1.length) (S1 ++ [.lst ((xs.filter p).map f)]) := by
  obtain ⟨ys, S', h1, h2, h3⟩ := e_lc (e := e) (ifs := .one t) (own := own) (g := g) (fun i acc S => acc = ((xs.take i).filter p).map f ∧ S = S1) hi ⟨rfl, rfl⟩ (fun i acc S hi ⟨h1, h2⟩ => by
    subst h2
    refine ⟨hlv, fun h => ?_⟩
    have := List.length_filter_le p (xs.take i)
    rw [h1, List.length_map]
    rw [List.length_take] at this
    omega) (fun i x acc S hx ⟨h1, h2⟩ => by
    subst h2
    obtain ⟨ρ1, q1, q2, q3⟩ := hs x (List.mem_of_getElem? hx)
    refine ⟨ρ1, S, q1, p x, S, o_one q2, ?_⟩
    cases hp : p x with
    | true =>
      refine .inl ⟨rfl, f x, S, q3 hp, ?_, rfl⟩
      rw [h1, List.take_add_one, hx, List.filter_append, List.map_append]
      simp [hp]
    | false =>
      refine .inr ⟨rfl, ?_, rfl⟩
      rw [h1, List.take_add_one, hx, List.filter_append, List.map_append]
      simp [hp])
  rw [h1, h3, h2, List.take_length]
end
/-! ### what is wanted of statements -/
structure wO (o : Out) (P : Out → Prop) : Prop where
  go : P o
theorem w_eq {o o' : Out} {P : Out → Prop} (e : o = o') (h : P o') : wO o P := ⟨by rw [e]; exact h⟩
section
variable {cl : Nat → List Dv → Sto → Res Dv} {gv : Str → Option Dv} {ρ ρ1 ρ2 ρ' : Envr} {S S1 S2 S3 S4 S' : Sto} {P : Out → Prop} {r : Bc}
theorem w_nx {s : Sc} (h1 : exS cl gv s ρ S = .nx ρ1 S1) (h2 : wO (exB cl gv r ρ1 S1) P) : wO (exB cl gv (.cons s r) ρ S) P := by
  exact w_eq (b_nx h1 rfl) h2.go
theorem w_asg {g : Gc} {e : Ec} {x : Dv} (h1 : ev cl gv e ρ S = .ok x S1) (h2 : asn cl gv g x ρ S1 = .ok ρ' S2) (h3 : wO (exB cl gv r ρ' S2) P) : wO (exB cl gv (.cons (.asg g e) r) ρ S) P := w_nx (s_asg h1 h2) h3
theorem w_ex {e : Ec} {x : Dv} (h1 : ev cl gv e ρ S = .ok x S1) (h3 : wO (exB cl gv r ρ S1) P) : wO (exB cl gv (.cons (.ex e) r) ρ S) P := w_nx (s_ex h1) h3
theorem w_aug {i : Nat} {o : Operator} {e : Ec} {x y z : Dv} (h0 : ρ[i]? = some (some x)) (h1 : ev cl gv e ρ S = .ok y S1) (h2 : augop o x y S1 = .ok z S2) (h3 : wO (exB cl gv r (ρ.set i (some z)) S2) P) : wO (exB cl gv (.cons (.aug i o e) r) ρ S) P := w_nx (s_aug h0 h1 h2) h3
theorem w_ret {e : Ec} {x : Dv} (h1 : ev cl gv e ρ S = .ok x S1) (h2 : P (.rt x S1)) : wO (exB cl gv (.cons (.ret e) r) ρ S) P := by
  exact w_eq (b_rt (s_ret h1)) h2
theorem w_nil (h : P (.nx ρ S)) : wO (exB cl gv .nil ρ S) P := by
  exact w_eq b_nil h
/-- an if: what its blocks come to, then the rest -/
theorem w_ite {t : Tc} {a b : Bc} {k : Bool} (h1 : tst cl gv t ρ S = .ok k S1)
    (ht : k = true → wO (exB cl gv a ρ S1) fun o => match o with
      | .nx ρ' S' => wO (exB cl gv r ρ' S') P
      | o => P o)
    (hf : k = false → wO (exB cl gv b ρ S1) fun o => match o with
      | .nx ρ' S' => wO (exB cl gv r ρ' S') P
      | o => P o) : wO (exB cl gv (.cons (.ite t a b) r) ρ S) P := by
  have key : ∀ c : Bc, exS cl gv (.ite t a b) ρ S = exB cl gv c ρ S1 → (wO (exB cl gv c ρ S1) fun o => match o with
      | .nx ρ' S' => wO (exB cl gv r ρ' S') P
      | o => P o) → wO (exB cl gv (.cons (.ite t a b) r) ρ S) P := fun c e h => by
    have h := h.go
    rw [exB, e]
    cases hq : exB cl gv c ρ S1 with
    | nx ρ' S' => rw [hq] at h; exact h
    | rt d S' => rw [hq] at h; exact ⟨h⟩
    | bk ρ' S' => rw [hq] at h; exact ⟨h⟩
    | ct ρ' S' => rw [hq] at h; exact ⟨h⟩
    | rs x ρ' S' => rw [hq] at h; exact ⟨h⟩
    | no => rw [hq] at h; exact ⟨h⟩
  cases k with
  | true => exact key a (by rw [exS, h1, Res.out_ok, if_pos rfl]) (ht rfl)
  | false => exact key b (by rw [exS, h1, Res.out_ok, if_neg (by decide)]) (hf rfl)
/-- .. both ways lead to one point -/
theorem w_join {t : Tc} {a b : Bc} {k : Bool} (J : Envr → Sto → Prop) (h1 : tst cl gv t ρ S = .ok k S1)
    (ht : k = true → wO (exB cl gv a ρ S1) fun o => ∃ ρ' S', o = .nx ρ' S' ∧ J ρ' S') (hf : k = false → wO (exB cl gv b ρ S1) fun o => ∃ ρ' S', o = .nx ρ' S' ∧ J ρ' S')
    (hk : ∀ ρ' S', J ρ' S' → wO (exB cl gv r ρ' S') P) : wO (exB cl gv (.cons (.ite t a b) r) ρ S) P := by
  refine w_ite h1 (fun e => ?_) (fun e => ?_)
  · obtain ⟨ρ', S', q, j⟩ := (ht e).go
    exact w_eq q (hk _ _ j)
  · obtain ⟨ρ', S', q, j⟩ := (hf e).go
    exact w_eq q (hk _ _ j)
/-- .. whose test does not hold, without an else -/
theorem w_skip {t : Tc} {a : Bc} (h1 : tst cl gv t ρ S = .ok false S1) (h : wO (exB cl gv r ρ S1) P) : wO (exB cl gv (.cons (.ite t a .nil) r) ρ S) P := w_nx (s_ite_f h1 b_nil) h
theorem w_for {g : Gc} {it : Ic} {b : Bc} {xs : List Dv} {src : Option (Nat × Cel)} (I : Nat → Envr → Sto → Prop) (hi : evi cl gv it ρ S = .ok ⟨xs, src, none⟩ S1) (h0 : I 0 ρ S1)
    (hl : ∀ i ρ S, i ≤ xs.length → I i ρ S → (⟨xs, src, none⟩ : Wk).live S)
    (hs : ∀ i x ρ S, xs[i]? = some x → I i ρ S → ∃ ρ1 S1, asn cl gv g x ρ S = .ok ρ1 S1 ∧ wO (exB cl gv b ρ1 S1) fun o => ∃ ρ' S', (o = .nx ρ' S' ∨ o = .ct ρ' S') ∧ I (i + 1) ρ' S')
    (hk : ∀ ρ' S', I xs.length ρ' S' → wO (exB cl gv r ρ' S') P) : wO (exB cl gv (.cons (.fr g it b) r) ρ S) P := by
  obtain ⟨ρ', S', h1, h2⟩ := s_for I hi h0 hl (fun i x ρ S hx hI => by
    obtain ⟨ρ1, S1, e1, h⟩ := hs i x ρ S hx hI
    exact ⟨ρ1, S1, e1, h.go⟩)
  exact w_nx h1 (hk _ _ h2)
theorem w_fori {g : Gc} {e : Ec} {b : Bc} {m : Nat} {kvs : List (Key × Dv)} (I : Nat → Envr → Sto → Prop) (hi : ev cl gv e ρ S = .ok (.ref m) S1) (hm : S1[m]? = some (.dct kvs)) (h0 : I 0 ρ (S1.set m (.fd kvs)))
    (hl : ∀ i ρ S, i ≤ kvs.length → I i ρ S → S[m]? = some (.fd kvs))
    (hs : ∀ i kv ρ S, kvs[i]? = some kv → I i ρ S → ∃ ρ1 S1, asn cl gv g (.tup [kD kv.1, kv.2]) ρ S = .ok ρ1 S1 ∧ wO (exB cl gv b ρ1 S1) fun o => ∃ ρ' S', (o = .nx ρ' S' ∨ o = .ct ρ' S') ∧ I (i + 1) ρ' S')
    (hk : ∀ ρ' S', I kvs.length ρ' S' → wO (exB cl gv r ρ' (S'.set m (.dct kvs))) P) : wO (exB cl gv (.cons (.fr g (.items e) b) r) ρ S) P := by
  obtain ⟨ρ', S', h1, h2⟩ := s_fori I hi hm h0 hl (fun i x ρ S hx hI => by
    obtain ⟨ρ1, S1, e1, h⟩ := hs i x ρ S hx hI
    exact ⟨ρ1, S1, e1, h.go⟩)
  exact w_nx h1 (hk _ _ h2)
/-- a block that goes on -/
theorem w_go {ρ' : Envr} {S' : Sto} {I : Envr → Sto → Prop} (h : I ρ' S') : ∃ ρ1 S1, ((Out.nx ρ' S' : Out) = .nx ρ1 S1 ∨ (Out.nx ρ' S' : Out) = .ct ρ1 S1) ∧ I ρ1 S1 := ⟨ρ', S', .inl rfl, h⟩
end
/-! ### the store -/
section
variable {S : Sto} {l : List Cel} {x y z : Cel} {i : Nat}
theorem st_old (h : S[i]? = some x) : (S ++ l)[i]? = some x := by
  rw [List.getElem?_append_left (List.getElem?_eq_some_iff.mp h).1]
  exact h
theorem st_lt (h : S[i]? = some x) : i < S.length := (List.getElem?_eq_some_iff.mp h).1
theorem st_0 : (S ++ x :: l)[S.length]? = some x := by simp
theorem st_1 : (S ++ x :: y :: l)[S.length + 1]? = some y := by
  rw [List.getElem?_append_right (by omega), show S.length + 1 - S.length = 1 by omega]
  rfl
theorem st_2 : (S ++ x :: y :: z :: l)[S.length + 2]? = some z := by
  rw [List.getElem?_append_right (by omega), show S.length + 2 - S.length = 2 by omega]
  rfl
theorem st_k {k : Nat} : (S ++ l)[S.length + k]? = l[k]? := by
  rw [List.getElem?_append_right (by omega), show S.length + k - S.length = k by omega]
theorem set_0 : (S ++ x :: l).set S.length y = S ++ y :: l := by
  rw [List.set_append_right _ _ (by omega), Nat.sub_self]
  rfl
theorem set_k {k : Nat} : (S ++ l).set (S.length + k) y = S ++ l.set k y := by
  rw [List.set_append_right _ _ (by omega), show S.length + k - S.length = k by omega]
theorem set_old (h : i < S.length) : (S ++ l).set i y = S.set i y ++ l := List.set_append_left _ _ h
end
/-- all but the cell p stays -/
structure Fr (S S' : Sto) (p : Nat) : Prop where
  len : S.length ≤ S'.length
  old : ∀ j, j < S.length → j ≠ p → S'[j]? = S[j]?
theorem Fr.refl (S : Sto) (p : Nat) : Fr S S p := ⟨Nat.le_refl _, fun _ _ _ => rfl⟩
theorem Fr.trans {S S1 S2 : Sto} {p : Nat} (a : Fr S S1 p) (b : Fr S1 S2 p) : Fr S S2 p :=
  ⟨Nat.le_trans a.len b.len, fun j h n => (b.old j (Nat.lt_of_lt_of_le h a.len) n).trans (a.old j h n)⟩
theorem Fr.set (S : Sto) (p : Nat) (c : Cel) : Fr S (S.set p c) p := ⟨by simp, fun j _ n => List.getElem?_set_ne fun e => n e.symm⟩
theorem Fr.app (S : Sto) (p : Nat) (l : List Cel) : Fr S (S ++ l) p := ⟨by simp, fun j h _ => List.getElem?_append_left h⟩
theorem Fr.get {S S' : Sto} {p j : Nat} {c : Cel} (f : Fr S S' p) (h : S[j]? = some c) (n : j ≠ p) : S'[j]? = some c := (f.old j (st_lt h) n).trans h
/-- all that was there stays -/
structure Fx (S S' : Sto) : Prop where
  len : S.length ≤ S'.length
  old : ∀ j, j < S.length → S'[j]? = S[j]?
theorem Fx.refl (S : Sto) : Fx S S := ⟨Nat.le_refl _, fun _ _ => rfl⟩
theorem Fx.trans {S S1 S2 : Sto} (a : Fx S S1) (b : Fx S1 S2) : Fx S S2 := ⟨Nat.le_trans a.len b.len, fun j h => (b.old j (Nat.lt_of_lt_of_le h a.len)).trans (a.old j h)⟩
theorem Fx.app (S : Sto) (l : List Cel) : Fx S (S ++ l) := ⟨by simp, fun j h => List.getElem?_append_left h⟩
theorem Fx.get {S S' : Sto} {j : Nat} {c : Cel} (f : Fx S S') (h : S[j]? = some c) : S'[j]? = some c := (f.old j (st_lt h)).trans h
theorem Fx.set {S S' : Sto} {i : Nat} {c : Cel} (f : Fx S S') (h : S.length ≤ i) : Fx S (S'.set i c) := ⟨by rw [List.length_set]; exact f.len, fun j hj => by rw [List.getElem?_set_ne (by omega)]; exact f.old j hj⟩
/-! ### operations under their conditions -/
section
variable {S : Sto}
theorem bi_cat {x y : Str} (h : x.length + y.length ≤ LIM) : binop .Add (.str x) (.str y) S = .ok (.str (x ++ y)) S := by
  show (if _ then _ else _) = _
  rw [if_pos h]
theorem bi_mul {i j : Int} (h : (-(2 ^ 64) < i ∧ i < 2 ^ 64) ∨ (-(2 ^ 64) < j ∧ j < 2 ^ 64)) : binop .Mult (.int i) (.int j) S = .ok (.int (i * j)) S := by
  show (if _ then _ else _) = _
  rw [if_pos h]
theorem bi_div {i j : Int} (h : 0 < j ∧ j < 1073741824) : binop .FloorDiv (.int i) (.int j) S = .ok (.int (i / j)) S := by
  show (if _ then _ else _) = _
  rw [if_pos h]
theorem bi_mod {i j : Int} (h : 0 < j) : binop .Mod (.int i) (.int j) S = .ok (.int (i % j)) S := by
  show (if _ then _ else _) = _
  rw [if_pos h]
theorem bi_catT {xs ys : List Dv} (h : xs.length + ys.length ≤ LIM) : binop .Add (.tup xs) (.tup ys) S = .ok (.tup (xs ++ ys)) S := by
  show (if _ then _ else _) = _
  rw [if_pos h]
theorem bi_catL {a b : Nat} {xs ys : List Dv} (ha : S[a]? = some (.lst xs)) (hb : S[b]? = some (.lst ys)) (h : xs.length + ys.length ≤ LIM) : binop .Add (.ref a) (.ref b) S = .ok (.ref S.length) (S ++ [.lst (xs ++ ys)]) := by
  unfold binop
  simp only [ha, hb]
  rw [if_pos h]
  rfl
theorem bl_str {i : Int} (h : i.natAbs.log2 < 1920) : bltop .str [.int i] S = .ok (.str (Str.ofString (toString i))) S := by
  show (if _ then _ else _) = _
  rw [if_pos h]
theorem bl_len_s {x : Str} (h : x.length ≤ LIM) : bltop .len [.str x] S = .ok (.int x.length) S := by
  show (if _ then _ else _) = _
  rw [if_pos h]
theorem bl_len_t {xs : List Dv} : bltop .len [.tup xs] S = .ok (.int xs.length) S := rfl
theorem bl_len_l {n : Nat} {xs : List Dv} (h : S[n]? = some (.lst xs)) : bltop .len [.ref n] S = .ok (.int xs.length) S := by
  unfold bltop
  simp only [h]
theorem bl_tuple {d : Dv} {xs : List Dv} (h : seqv S d = some xs) : bltop .tuple [d] S = .ok (.tup xs) S := by
  unfold bltop
  simp only [h]
theorem bl_list {d : Dv} {xs : List Dv} (h : seqv S d = some xs) : bltop .list [d] S = .ok (.ref S.length) (S ++ [.lst xs]) := by
  unfold bltop
  simp only [h]
  rfl
theorem bl_dict {n : Nat} {kvs : List (Key × Dv)} (h : S[n]? = some (.dct kvs)) : bltop .dict [.ref n] S = .ok (.ref S.length) (S ++ [.dct kvs]) := by
  unfold bltop
  simp only [h]
  rfl
theorem asInts_map (ns : List Int) : asInts (ns.map .int) = some ns := by
  induction ns with
  | nil => rfl
  | cons n r ih => simp [asInts, ih]
theorem asStrs_map (ns : List Str) : asStrs (ns.map .str) = some ns := by
  induction ns with
  | nil => rfl
  | cons n r ih => simp [asStrs, ih]
theorem bl_sortedI {n : Nat} {ns : List Int} (h : S[n]? = some (.lst (ns.map .int))) : bltop .sorted [.ref n] S = .ok (.ref S.length) (S ++ [.lst ((sortI ns).map .int)]) := by
  unfold bltop
  simp only [seqv, h]
  unfold sorted
  rw [asInts_map]
  rfl
theorem bl_sortedS {n : Nat} {ns : List Str} (h : S[n]? = some (.lst (ns.map .str))) (hl : ns.length < 64) : bltop .sorted [.ref n] S = .ok (.ref S.length) (S ++ [.lst ((sortS ns).map .str)]) := by
  unfold bltop
  simp only [seqv, h]
  unfold sorted
  cases ns with
  | nil => simp [asInts, sortI, sortS, new]
  | cons x r =>
    rw [show asInts (List.map Dv.str (x :: r)) = none from rfl, asStrs_map]
    show (if _ then _ else _) = _
    rw [if_pos hl]
    rfl
theorem ix_lst {n : Nat} {xs : List Dv} {i : Int} {v : Dv} (h : S[n]? = some (.lst xs)) (hi : L2.atI xs i = some v) : ixop (.ref n) (.int i) S = .ok v S := by
  unfold ixop
  simp only [h, hi]
theorem ix_str {z : Str} {i : Int} {c : Nat} (hz : z.length ≤ LIM) (hi : L2.atI z.cps.toList i = some c) : ixop (.str z) (.int i) S = .ok (.str ⟨#[c]⟩) S := by
  unfold ixop
  simp only [if_pos hz, hi]
theorem ix_tup {xs : List Dv} {i : Int} {v : Dv} (hi : L2.atI xs i = some v) : ixop (.tup xs) (.int i) S = .ok v S := by
  unfold ixop
  simp only [hi]
theorem ix_rol {xs : List Dv} {i : Int} {v : Dv} (hi : L2.atI xs i = some v) : ixop (.rol xs) (.int i) S = .ok v S := by
  unfold ixop
  simp only [hi]
theorem ix_dct {n : Nat} {kvs : List (Key × Dv)} {d v : Dv} {k : Key} (h : S[n]? = some (.dct kvs)) (hk : keyv d = some k) (hv : getD kvs k = some v) : ixop (.ref n) d S = .ok v S := by
  unfold ixop
  simp only [h, hk, hv]
theorem ix_fd {n : Nat} {kvs : List (Key × Dv)} {d v : Dv} {k : Key} (h : S[n]? = some (.fd kvs)) (hk : keyv d = some k) (hv : getD kvs k = some v) : ixop (.ref n) d S = .ok v S := by
  unfold ixop
  simp only [h, hk, hv]
theorem mt_append {n : Nat} {xs : List Dv} {d : Dv} (h : S[n]? = some (.lst xs)) (hl : xs.length < LIM) : mthop .append (.ref n) [d] S = .ok .non (S.set n (.lst (xs ++ [d]))) := by
  unfold mthop
  simp only [h]
  rw [if_pos hl]
theorem my_append {n : Nat} {xs : List Dv} (h : S[n]? = some (.lst xs)) : mty .append (.ref n) S = true := by
  unfold mty
  simp only [h]
theorem my_update {n : Nat} {xs : List (Key × Dv)} (h : S[n]? = some (.dct xs)) : mty .update (.ref n) S = true := by
  unfold mty
  simp only [h]
theorem mt_join {n : Nat} {sep : Str} {ss : List Str} (h : S[n]? = some (.lst (ss.map .str))) (hl : (ss.map (·.length)).sum + ss.length * sep.length ≤ LIM) : mthop .join (.str sep) [.ref n] S = .ok (.str (PySem.Txt.join sep ss)) S := by
  unfold mthop
  simp only [seqv, h, asStrs_map]
  rw [if_pos hl]
theorem mt_upd {n m : Nat} {kvs more : List (Key × Dv)} (h : S[n]? = some (.dct kvs)) (h2 : S[m]? = some (.dct more)) (hne : n ≠ m) (hl : kvs.length + more.length ≤ LIM) : mthop .update (.ref n) [.ref m] S = .ok .non (S.set n (.dct (mergeD kvs more))) := by
  unfold mthop
  simp only [h, h2]
  rw [if_pos ⟨hne, hl⟩]
theorem st_set_l {n : Nat} {xs : List Dv} {i : Int} {j : Nat} {v : Dv} (h : S[n]? = some (.lst xs)) (hj : L2.ixN xs.length i = some j) : setop (.ref n) (.int i) v S = .ok () (S.set n (.lst (xs.set j v))) := by
  unfold setop
  simp only [h, hj]
theorem st_set_d {n : Nat} {kvs : List (Key × Dv)} {d v : Dv} {k : Key} (h : S[n]? = some (.dct kvs)) (hk : keyv d = some k) (hl : kvs.length < LIM) : setop (.ref n) d v S = .ok () (S.set n (.dct (putD kvs k v))) := by
  unfold setop
  simp only [h, hk]
  rw [if_pos hl]
theorem wk_lst {n : Nat} {xs : List Dv} (h : S[n]? = some (.lst xs)) : walkop (.ref n) S = .ok ⟨xs, some (n, .lst xs), none⟩ S := by
  unfold walkop
  simp only [h]
theorem rg_1 {j : Int} (h : -(2 ^ 62) ≤ j ∧ j < 2 ^ 62) : rngop [.int j] S = .ok ⟨rangeL 0 j.toNat, none, none⟩ S := by
  show (if _ then _ else _) = _
  rw [if_pos h]
theorem rangeL_len (lo : Int) (n : Nat) : (rangeL lo n).length = n := by simp [rangeL]
theorem rangeL_at {lo : Int} {n i : Nat} {d : Dv} (h : (rangeL lo n)[i]? = some d) : d = .int (lo + i) ∧ i < n := by
  unfold rangeL at h
  rw [List.getElem?_map] at h
  by_cases hi : i < n
  · rw [List.getElem?_range hi] at h
    cases h
    exact ⟨rfl, hi⟩
  · rw [List.getElem?_eq_none (by simpa using hi)] at h
    cases h
end
/-! ### defs -/
theorem r_w {tb : List Fn} {gv : Str → Option Dv} {n f : Nat} {fn : Fn} {ds : List Dv} {S : Sto} {Q : Dv → Sto → Prop} (h : tb[f]? = some fn) (hl : ds.length = fn.np) (hb : wO (exB (run tb gv n) gv fn.body (start fn.ns ds) S) fun o => ∃ d S', o = .rt d S' ∧ Q d S') :
    ∃ d S', run tb gv (n + 1) f ds S = .ok d S' ∧ Q d S' := by
  obtain ⟨d, S', e, q⟩ := hb.go
  refine ⟨d, S', ?_, q⟩
  rw [run, h]
  show (if ds.length = fn.np then _ else _) = _
  rw [if_pos hl, e]
  rfl
theorem r_fn {tb : List Fn} {gv : Str → Option Dv} {n f : Nat} {fn : Fn} {ds : List Dv} {S : Sto} {r : Res Dv} (h : tb[f]? = some fn) (hl : ds.length = fn.np) (hb : (exB (run tb gv n) gv fn.body (start fn.ns ds) S).res = r) : run tb gv (n + 1) f ds S = r := by
  rw [run, h]
  show (if ds.length = fn.np then _ else _) = _
  rw [if_pos hl, hb]
theorem r_rt {tb : List Fn} {gv : Str → Option Dv} {n f : Nat} {fn : Fn} {ds : List Dv} {S S' : Sto} {d : Dv} (h : tb[f]? = some fn) (hl : ds.length = fn.np) (hb : exB (run tb gv n) gv fn.body (start fn.ns ds) S = .rt d S') : run tb gv (n + 1) f ds S = .ok d S' := r_fn h hl (by rw [hb]; rfl)
end Vm

set_option Elab.async false
set_option linter.all false
set_option maxRecDepth 100000
set_option maxHeartbeats 0
/-! the code of the defs: printed by gen.py -/
namespace K74
open PySem Vm
/-- ranges_of(numbers): numbers, ranges, number -/
def c_ranges_of : Bc := (.cons (.asg (.nm 1) (.lst .nil))
  (.cons (.fr (.nm 2) (.e (.blt .sorted (.cons (.blt .list (.cons (.var 0) .nil)) .nil))) (.cons (.ite (.bo .And (.cons (.tr (.var 1)) (.cons (.cmp .LtE (.var 2) (.bin .Add (.ix (.ix (.var 1) (.neg (.cst (.int 1)))) (.cst (.int 1))) (.cst (.int 1)))) .nil))) (.cons (.asg (.ix (.var 1) (.neg (.cst (.int 1)))) (.tup (.cons (.ix (.ix (.var 1) (.neg (.cst (.int 1)))) (.cst (.int 0))) (.cons (.var 2) .nil))))
  .nil) (.cons (.ex (.mth .append (.var 1) (.cons (.tup (.cons (.var 2) (.cons (.var 2) .nil))) .nil)))
  .nil))
  .nil))
  (.cons (.ret (.blt .tuple (.cons (.var 1) .nil)))
  .nil)))
/-- write_range(first, last): first, last -/
def c_write_range : Bc := (.cons (.ite (.cmp .Eq (.var 0) (.var 1)) (.cons (.ret (.blt .str (.cons (.var 0) .nil)))
  .nil) .nil)
  (.cons (.ret (.bin .Add (.bin .Add (.blt .str (.cons (.var 0) .nil)) (.cst (.str "-"))) (.blt .str (.cons (.var 1) .nil))))
  .nil))
/-- write_ranges(ranges): ranges, first, last -/
def c_write_ranges : Bc := (.cons (.ret (.mth .join (.cst (.str ", ")) (.cons (.lc [("first", 1), ("last", 2)] (.tup (.cons (.nm 1) (.cons (.nm 2) .nil))) (.e (.var 0)) .none (.call 1 (.cons (.var 1) (.cons (.var 2) .nil)))) .nil)))
  .nil)
/-- paragraphs_flow(texts, values): texts, values, style, paragraphs, text, runs, name -/
def c_paragraphs_flow : Bc := (.cons (.asg (.nm 2) (.blt .tuple (.cons (.lc [("name", 6)] (.nm 6) (.e (.gl "STYLE")) .none (.ix (.var 1) (.var 6))) .nil)))
  (.cons (.asg (.nm 3) (.lst .nil))
  (.cons (.fr (.nm 4) (.e (.var 0)) (.cons (.asg (.nm 5) (.tup (.cons (.tup (.cons (.cst (.str "text")) (.cons (.var 4) (.cons (.ix (.var 1) (.cst (.str "size"))) (.cons (.ix (.var 1) (.cst (.str "face"))) .nil))))) .nil)))
  (.cons (.ex (.mth .append (.var 3) (.cons (.tup (.cons (.var 5) (.cons (.var 2) .nil))) .nil)))
  .nil)))
  (.cons (.ret (.tup (.cons (.blt .tuple (.cons (.var 3) .nil)) (.cons (.tup .nil) (.cons (.tup .nil) (.cons (.tup .nil) (.cons (.tup .nil) .nil)))))))
  .nil))))
/-- contents_flow(entries, values): entries, values, name, number -/
def c_contents_flow : Bc := (.cons (.ret (.call 3 (.cons (.lc [("name", 2), ("number", 3)] (.tup (.cons (.nm 2) (.cons (.nm 3) .nil))) (.e (.var 0)) .none (.bin .Add (.bin .Add (.var 2) (.cst (.str " "))) (.blt .str (.cons (.var 3) .nil)))) (.cons (.var 1) .nil))))
  .nil)
/-- numbers_by_name(entries): entries, numbers, name, number, entry -/
def c_numbers_by_name : Bc := (.cons (.asg (.nm 1) (.dct .nil))
  (.cons (.fr (.nm 2) (.e (.blt .sorted (.cons (.lc [("entry", 4)] (.nm 4) (.e (.var 0)) .none (.ix (.var 4) (.cst (.int 0)))) .nil))) (.cons (.asg (.ix (.var 1) (.var 2)) (.lst .nil))
  .nil))
  (.cons (.fr (.tup (.cons (.nm 2) (.cons (.nm 3) .nil))) (.e (.var 0)) (.cons (.ex (.mth .append (.ix (.var 1) (.var 2)) (.cons (.var 3) .nil)))
  .nil))
  (.cons (.ret (.var 1))
  .nil))))
/-- index_flow(entries, values): entries, values, texts, name, numbers -/
def c_index_flow : Bc := (.cons (.asg (.nm 2) (.lst .nil))
  (.cons (.fr (.tup (.cons (.nm 3) (.cons (.nm 4) .nil))) (.items (.call 5 (.cons (.var 0) .nil))) (.cons (.ex (.mth .append (.var 2) (.cons (.bin .Add (.bin .Add (.var 3) (.cst (.str " "))) (.call 2 (.cons (.call 0 (.cons (.var 4) .nil)) .nil))) .nil)))
  .nil))
  (.cons (.ret (.call 3 (.cons (.var 2) (.cons (.var 1) .nil))))
  .nil)))
/-- _law_pool(script, at): script, at, cell -/
def c_law_pool : Bc := (.cons (.asg (.nm 2) (.cst (.int 0)))
  (.cons (.ite (.cmp .Lt (.var 1) (.blt .len (.cons (.var 0) .nil))) (.cons (.asg (.nm 2) (.blt .abs (.cons (.blt .int (.cons (.ix (.var 0) (.var 1)) .nil)) .nil)))
  .nil) .nil)
  (.cons (.ret (.lst (.cons (.var 2) (.cons (.cst (.int 0)) (.cons (.blt .int (.cons (.cmp .GtE (.var 2) (.bin .Pow (.cst (.int 10)) (.cst (.int 18)))) .nil)) (.cons (.bin .Mod (.blt .int (.cons (.bin .Add (.var 2) (.bin .Mult (.var 1) (.cst (.int 7919)))) .nil)) (.cst (.int 2147483647))) (.cons (.cst (.int 0)) .nil)))))))
  .nil)))
/-- _law_take(pool, many): pool, many, got, one, two -/
def c_law_take : Bc := (.cons (.asg (.ix (.var 0) (.cst (.int 1))) (.bin .Add (.ix (.var 0) (.cst (.int 1))) (.cst (.int 1))))
  (.cons (.ite (.cmp .Eq (.ix (.var 0) (.cst (.int 2))) (.cst (.int 1))) (.cons (.asg (.nm 2) (.bin .Mod (.blt .int (.cons (.ix (.var 0) (.cst (.int 0))) .nil)) (.var 1)))
  (.cons (.asg (.ix (.var 0) (.cst (.int 0))) (.bin .FloorDiv (.ix (.var 0) (.cst (.int 0))) (.var 1)))
  (.cons (.ret (.var 2))
  .nil))) .nil)
  (.cons (.asg (.nm 3) (.bin .Mod (.blt .int (.cons (.bin .Add (.bin .Add (.bin .Mult (.ix (.var 0) (.cst (.int 3))) (.cst (.int 48271))) (.bin .Mult (.ix (.var 0) (.cst (.int 1))) (.cst (.int 69621)))) (.cst (.int 11))) .nil)) (.cst (.int 2147483647))))
  (.cons (.asg (.nm 4) (.bin .Mod (.blt .int (.cons (.bin .Add (.bin .Add (.bin .Mult (.var 3) (.cst (.int 16807))) (.bin .FloorDiv (.var 3) (.cst (.int 65536)))) (.bin .Mult (.bin .Mult (.ix (.var 0) (.cst (.int 1))) (.ix (.var 0) (.cst (.int 1)))) (.cst (.int 40692)))) .nil)) (.cst (.int 2147483399))))
  (.cons (.ret (.bin .Mod (.blt .int (.cons (.bin .FloorDiv (.var 4) (.bin .Add (.ix (.var 0) (.cst (.int 1))) (.cst (.int 6)))) .nil)) (.var 1)))
  .nil)))))
/-- _law_same(one, two): one, two, both, k -/
def c_law_same : Bc := (.cons (.ite (.bo .Or (.cons (.tr (.blt .isinstance (.cons (.var 0) (.cons (.bty "bool") .nil)))) (.cons (.tr (.blt .isinstance (.cons (.var 1) (.cons (.bty "bool") .nil)))) .nil))) (.cons (.ret (.bo .And (.cons (.blt .isinstance (.cons (.var 0) (.cons (.bty "bool") .nil))) (.cons (.blt .isinstance (.cons (.var 1) (.cons (.bty "bool") .nil))) (.cons (.cmp .Eq (.var 0) (.var 1)) .nil)))))
  .nil) .nil)
  (.cons (.ite (.bo .And (.cons (.tr (.blt .isinstance (.cons (.var 0) (.cons (.bty "int") .nil)))) (.cons (.tr (.blt .isinstance (.cons (.var 1) (.cons (.bty "int") .nil)))) .nil))) (.cons (.ret (.cmp .Eq (.var 0) (.var 1)))
  .nil) .nil)
  (.cons (.ite (.bo .And (.cons (.tr (.blt .isinstance (.cons (.var 0) (.cons (.bty "str") .nil)))) (.cons (.tr (.blt .isinstance (.cons (.var 1) (.cons (.bty "str") .nil)))) .nil))) (.cons (.ret (.cmp .Eq (.var 0) (.var 1)))
  .nil) .nil)
  (.cons (.asg (.nm 2) (.bo .And (.cons (.blt .isinstance (.cons (.var 0) (.cons (.bty "tuple") .nil))) (.cons (.blt .isinstance (.cons (.var 1) (.cons (.bty "tuple") .nil))) .nil))))
  (.cons (.ite (.bo .Or (.cons (.tr (.var 2)) (.cons (.bo .And (.cons (.tr (.blt .isinstance (.cons (.var 0) (.cons (.bty "list") .nil)))) (.cons (.tr (.blt .isinstance (.cons (.var 1) (.cons (.bty "list") .nil)))) .nil))) .nil))) (.cons (.ite (.cmp .NotEq (.blt .len (.cons (.var 0) .nil)) (.blt .len (.cons (.var 1) .nil))) (.cons (.ret (.cst (.bl false)))
  .nil) .nil)
  (.cons (.fr (.nm 3) (.rng (.cons (.blt .len (.cons (.var 0) .nil)) .nil)) (.cons (.ite (.nt (.tr (.call 9 (.cons (.ix (.var 0) (.var 3)) (.cons (.ix (.var 1) (.var 3)) .nil))))) (.cons (.ret (.cst (.bl false)))
  .nil) .nil)
  .nil))
  (.cons (.ret (.cst (.bl true)))
  .nil))) .nil)
  (.cons (.ret (.bo .And (.cons (.cmp .Is (.var 0) (.cst .non)) (.cons (.cmp .Is (.var 1) (.cst .non)) .nil))))
  .nil))))))
/-- _law_letters(pool, many): pool, many, abc, k -/
def c_law_letters : Bc := (.cons (.asg (.nm 2) (.cst (.str "abcdefghijklmnopqrstuvwxyz")))
  (.cons (.ret (.mth .join (.cst (.str "")) (.cons (.lc [("k", 3)] (.nm 3) (.rng (.cons (.var 1) .nil)) .none (.ix (.var 2) (.call 8 (.cons (.var 0) (.cons (.cst (.int 26)) .nil))))) .nil)))
  .nil))
/-- _law_entries(pool): pool, names, entries, many, most, k -/
def c_law_entries : Bc := (.cons (.asg (.nm 1) (.lst .nil))
  (.cons (.asg (.nm 2) (.lst .nil))
  (.cons (.asg (.nm 3) (.call 8 (.cons (.var 0) (.cons (.cst (.int 21)) .nil))))
  (.cons (.ite (.cmp .Eq (.call 8 (.cons (.var 0) (.cons (.cst (.int 8)) .nil))) (.cst (.int 7))) (.cons (.asg (.nm 3) (.cst (.int 29)))
  .nil) .nil)
  (.cons (.asg (.nm 4) (.ix (.lst (.cons (.cst (.int 9)) (.cons (.cst (.int 99)) (.cons (.cst (.int 9999)) .nil)))) (.call 8 (.cons (.var 0) (.cons (.cst (.int 3)) .nil)))))
  (.cons (.fr (.nm 5) (.rng (.cons (.var 3) .nil)) (.cons (.ite (.bo .Or (.cons (.cmp .Eq (.blt .len (.cons (.var 1) .nil)) (.cst (.int 0))) (.cons (.cmp .Eq (.call 8 (.cons (.var 0) (.cons (.cst (.int 4)) .nil))) (.cst (.int 0))) .nil))) (.cons (.ex (.mth .append (.var 1) (.cons (.call 10 (.cons (.var 0) (.cons (.bin .Add (.cst (.int 1)) (.call 8 (.cons (.var 0) (.cons (.cst (.int 8)) .nil)))) .nil))) .nil)))
  .nil) .nil)
  (.cons (.ex (.mth .append (.var 2) (.cons (.tup (.cons (.ix (.var 1) (.call 8 (.cons (.var 0) (.cons (.blt .len (.cons (.var 1) .nil)) .nil)))) (.cons (.bin .Add (.cst (.int 1)) (.call 8 (.cons (.var 0) (.cons (.var 4) .nil)))) .nil))) .nil)))
  .nil)))
  (.cons (.ret (.var 2))
  .nil)))))))
/-- _law_values(pool): pool, values -/
def c_law_values : Bc := (.cons (.asg (.nm 1) (.dct (.cons (.cst (.str "size")) (.bin .Add (.cst (.int 1)) (.call 8 (.cons (.var 0) (.cons (.cst (.int 12)) .nil)))) (.cons (.cst (.str "lead")) (.bin .Add (.cst (.int 1)) (.call 8 (.cons (.var 0) (.cons (.cst (.int 99)) .nil)))) .nil))))
  (.cons (.ex (.mth .update (.var 1) (.cons (.dct (.cons (.cst (.str "face")) (.ix (.lst (.cons (.cst (.str "plain")) (.cons (.cst (.str "bold")) .nil))) (.call 8 (.cons (.var 0) (.cons (.cst (.int 2)) .nil)))) (.cons (.cst (.str "align")) (.ix (.lst (.cons (.cst (.str "both")) (.cons (.cst (.str "left")) .nil))) (.call 8 (.cons (.var 0) (.cons (.cst (.int 2)) .nil)))) .nil))) .nil)))
  (.cons (.ex (.mth .update (.var 1) (.cons (.dct (.cons (.cst (.str "least")) (.bin .Add (.cst (.int 1)) (.call 8 (.cons (.var 0) (.cons (.cst (.int 4)) .nil)))) .nil)) .nil)))
  (.cons (.ex (.mth .update (.var 1) (.cons (.dct (.cons (.cst (.str "place")) (.ix (.lst (.cons (.cst (.str "block")) (.cons (.cst (.str "line")) (.cons (.cst (.str "none")) (.cons (.cst (.str "note")) (.cons (.cst (.str "float")) .nil)))))) (.call 8 (.cons (.var 0) (.cons (.cst (.int 5)) .nil)))) .nil)) .nil)))
  (.cons (.ex (.mth .update (.var 1) (.cons (.dct (.cons (.cst (.str "keep")) (.ix (.lst (.cons (.cst (.str "yes")) (.cons (.cst (.str "no")) .nil))) (.call 8 (.cons (.var 0) (.cons (.cst (.int 2)) .nil)))) (.cons (.cst (.str "indent")) (.call 8 (.cons (.var 0) (.cons (.cst (.int 100)) .nil))) .nil))) .nil)))
  (.cons (.ex (.mth .update (.var 1) (.cons (.dct (.cons (.cst (.str "above")) (.call 8 (.cons (.var 0) (.cons (.cst (.int 100)) .nil))) (.cons (.cst (.str "below")) (.call 8 (.cons (.var 0) (.cons (.cst (.int 100)) .nil))) .nil))) .nil)))
  (.cons (.ret (.var 1))
  .nil)))))))
/-- _law_stretched(numbers): numbers, words, first, last, number, one -/
def c_law_stretched : Bc := (.cons (.asg (.nm 1) (.lst .nil))
  (.cons (.asg (.nm 2) (.cst (.int 0)))
  (.cons (.asg (.nm 3) (.neg (.cst (.int 5))))
  (.cons (.fr (.nm 4) (.e (.bin .Add (.blt .sorted (.cons (.lc [("one", 5)] (.nm 5) (.e (.var 0)) .none (.blt .int (.cons (.var 5) .nil))) .nil)) (.lst (.cons (.bin .Pow (.cst (.int 10)) (.cst (.int 9))) .nil)))) (.cons (.ite (.cmp .Gt (.bin .Sub (.var 4) (.var 3)) (.cst (.int 1))) (.cons (.ite (.cmp .Gt (.var 3) (.cst (.int 0))) (.cons (.ex (.mth .append (.var 1) (.cons (.ix (.lst (.cons (.bin .Add (.bin .Add (.blt .str (.cons (.var 2) .nil)) (.cst (.str "-"))) (.blt .str (.cons (.var 3) .nil))) (.cons (.blt .str (.cons (.var 2) .nil)) .nil))) (.blt .int (.cons (.cmp .Eq (.var 2) (.var 3)) .nil))) .nil)))
  .nil) .nil)
  (.cons (.asg (.nm 2) (.var 4))
  .nil)) .nil)
  (.cons (.asg (.nm 3) (.var 4))
  .nil)))
  (.cons (.ret (.mth .join (.cst (.str ", ")) (.cons (.var 1) .nil)))
  .nil)))))
/-- _law_flow(texts, values): texts, values, style, rows, text -/
def c_law_flow : Bc := (.cons (.asg (.nm 2) (.tup (.cons (.ix (.var 1) (.cst (.str "align"))) (.cons (.ix (.var 1) (.cst (.str "indent"))) (.cons (.ix (.var 1) (.cst (.str "lead"))) (.cons (.ix (.var 1) (.cst (.str "least"))) (.cons (.ix (.var 1) (.cst (.str "keep"))) .nil)))))))
  (.cons (.asg (.nm 2) (.bin .Add (.var 2) (.tup (.cons (.ix (.var 1) (.cst (.str "above"))) (.cons (.ix (.var 1) (.cst (.str "below"))) .nil)))))
  (.cons (.asg (.nm 3) (.lc [("text", 4)] (.nm 4) (.e (.var 0)) .none (.tup (.cons (.tup (.cons (.tup (.cons (.cst (.str "text")) (.cons (.var 4) (.cons (.ix (.var 1) (.cst (.str "size"))) (.cons (.ix (.var 1) (.cst (.str "face"))) .nil))))) .nil)) (.cons (.var 2) .nil)))))
  (.cons (.ret (.tup (.cons (.blt .tuple (.cons (.var 3) .nil)) (.cons (.tup .nil) (.cons (.tup .nil) (.cons (.tup .nil) (.cons (.tup .nil) .nil)))))))
  .nil))))
/-- _law_flows_so(entries, values): entries, values, handed, given, texts, told, name, one -/
def c_law_flows_so : Bc := (.cons (.asg (.nm 2) (.blt .list (.cons (.var 0) .nil)))
  (.cons (.asg (.nm 3) (.blt .dict (.cons (.var 1) .nil)))
  (.cons (.asg (.nm 4) (.lc [("one", 7)] (.nm 7) (.e (.var 0)) .none (.bin .Add (.bin .Add (.ix (.var 7) (.cst (.int 0))) (.cst (.str " "))) (.blt .str (.cons (.ix (.var 7) (.cst (.int 1))) .nil)))))
  (.cons (.ite (.nt (.tr (.call 9 (.cons (.call 4 (.cons (.var 2) (.cons (.var 3) .nil))) (.cons (.call 14 (.cons (.var 4) (.cons (.var 1) .nil))) .nil))))) (.cons (.ret (.cst (.bl false)))
  .nil) .nil)
  (.cons (.asg (.nm 5) (.lst .nil))
  (.cons (.asg (.nm 4) (.lst .nil))
  (.cons (.fr (.nm 6) (.e (.blt .sorted (.cons (.lc [("one", 7)] (.nm 7) (.e (.var 0)) .none (.blt .str (.cons (.ix (.var 7) (.cst (.int 0))) .nil))) .nil))) (.cons (.ite (.cmp .NotIn (.var 6) (.var 5)) (.cons (.ex (.mth .append (.var 5) (.cons (.var 6) .nil)))
  (.cons (.ex (.mth .append (.var 4) (.cons (.bin .Add (.bin .Add (.var 6) (.cst (.str " "))) (.call 13 (.cons (.lc [("one", 7)] (.nm 7) (.e (.var 0)) (.one (.cmp .Eq (.ix (.var 7) (.cst (.int 0))) (.var 6))) (.ix (.var 7) (.cst (.int 1)))) .nil))) .nil)))
  .nil)) .nil)
  .nil))
  (.cons (.ite (.nt (.tr (.call 9 (.cons (.call 6 (.cons (.var 2) (.cons (.var 3) .nil))) (.cons (.call 14 (.cons (.var 4) (.cons (.var 1) .nil))) .nil))))) (.cons (.ret (.cst (.bl false)))
  .nil) .nil)
  (.cons (.ret (.bo .And (.cons (.call 9 (.cons (.var 2) (.cons (.var 0) .nil))) (.cons (.cmp .Eq (.var 3) (.var 1)) .nil))))
  .nil)))))))))
/-- law(script): script, entries, values -/
def c_law : Bc := (.cons (.asg (.nm 1) (.call 11 (.cons (.call 7 (.cons (.var 0) (.cons (.cst (.int 0)) .nil))) .nil)))
  (.cons (.asg (.nm 2) (.call 12 (.cons (.call 7 (.cons (.var 0) (.cons (.cst (.int 1)) .nil))) .nil)))
  (.cons (.ite (.bo .Or (.cons (.nt (.tr (.call 15 (.cons (.var 1) (.cons (.var 2) .nil))))) (.cons (.nt (.tr (.call 15 (.cons (.sl (.var 1) .none (.one (.bin .FloorDiv (.blt .len (.cons (.var 1) .nil)) (.cst (.int 2))))) (.cons (.var 2) .nil))))) .nil))) (.cons (.ret (.cst (.bl false)))
  .nil) .nil)
  (.cons (.ret (.call 15 (.cons (.lst .nil) (.cons (.var 2) .nil))))
  .nil))))
def nm : List Str := ["ranges_of", "write_range", "write_ranges", "paragraphs_flow", "contents_flow", "numbers_by_name", "index_flow", "_law_pool", "_law_take", "_law_same", "_law_letters", "_law_entries", "_law_values", "_law_stretched", "_law_flow", "_law_flows_so", "law"]
def tb : List Fn := [⟨1, 3, c_ranges_of⟩, ⟨2, 2, c_write_range⟩, ⟨1, 3, c_write_ranges⟩, ⟨2, 7, c_paragraphs_flow⟩, ⟨2, 4, c_contents_flow⟩, ⟨1, 5, c_numbers_by_name⟩, ⟨2, 5, c_index_flow⟩, ⟨2, 3, c_law_pool⟩, ⟨2, 5, c_law_take⟩, ⟨2, 4, c_law_same⟩, ⟨2, 4, c_law_letters⟩, ⟨1, 6, c_law_entries⟩, ⟨1, 2, c_law_values⟩, ⟨1, 6, c_law_stretched⟩, ⟨2, 5, c_law_flow⟩, ⟨2, 8, c_law_flows_so⟩, ⟨1, 3, c_law⟩]
def cs : Cst := [("STYLE", .tup [.str "align", .str "indent", .str "lead", .str "least", .str "keep", .str "above", .str "below"])]
end K74

set_option Elab.async false
set_option linter.all false
set_option maxRecDepth 100000
set_option maxHeartbeats 0
/-! the head of the law: printed by gen.py -/
namespace K74
open PySem Vm L2
def topS (i : Nat) : Stmt := PySem.Challenge.pw_pagestyles_k74_contents_and_index_as_flo.main.body.getD i (.Pass ⟨0, 0, 0, 0⟩)
def d_ranges_of : DefI := ⟨"ranges_of", ⟨1, 3, c_ranges_of⟩, ["numbers", "ranges", "number"], ["numbers"], topS 1⟩
theorem k_ranges_of : defB nm d_ranges_of = true := by kernel_rfl
theorem b_ranges_of : BindsP d_ranges_of := fun _ _ _ _ _ _ us hl => match us, hl with | [_], _ => rfl
def d_write_range : DefI := ⟨"write_range", ⟨2, 2, c_write_range⟩, ["first", "last"], ["first", "last"], topS 2⟩
theorem k_write_range : defB nm d_write_range = true := by kernel_rfl
theorem b_write_range : BindsP d_write_range := fun _ _ _ _ _ _ us hl => match us, hl with | [_, _], _ => rfl
def d_write_ranges : DefI := ⟨"write_ranges", ⟨1, 3, c_write_ranges⟩, ["ranges", "first", "last"], ["ranges"], topS 3⟩
theorem k_write_ranges : defB nm d_write_ranges = true := by kernel_rfl
theorem b_write_ranges : BindsP d_write_ranges := fun _ _ _ _ _ _ us hl => match us, hl with | [_], _ => rfl
def d_paragraphs_flow : DefI := ⟨"paragraphs_flow", ⟨2, 7, c_paragraphs_flow⟩, ["texts", "values", "style", "paragraphs", "text", "runs", "name"], ["texts", "values"], topS 6⟩
theorem k_paragraphs_flow : defB nm d_paragraphs_flow = true := by kernel_rfl
theorem b_paragraphs_flow : BindsP d_paragraphs_flow := fun _ _ _ _ _ _ us hl => match us, hl with | [_, _], _ => rfl
def d_contents_flow : DefI := ⟨"contents_flow", ⟨2, 4, c_contents_flow⟩, ["entries", "values", "name", "number"], ["entries", "values"], topS 7⟩
theorem k_contents_flow : defB nm d_contents_flow = true := by kernel_rfl
theorem b_contents_flow : BindsP d_contents_flow := fun _ _ _ _ _ _ us hl => match us, hl with | [_, _], _ => rfl
def d_numbers_by_name : DefI := ⟨"numbers_by_name", ⟨1, 5, c_numbers_by_name⟩, ["entries", "numbers", "name", "number", "entry"], ["entries"], topS 8⟩
theorem k_numbers_by_name : defB nm d_numbers_by_name = true := by kernel_rfl
theorem b_numbers_by_name : BindsP d_numbers_by_name := fun _ _ _ _ _ _ us hl => match us, hl with | [_], _ => rfl
def d_index_flow : DefI := ⟨"index_flow", ⟨2, 5, c_index_flow⟩, ["entries", "values", "texts", "name", "numbers"], ["entries", "values"], topS 9⟩
theorem k_index_flow : defB nm d_index_flow = true := by kernel_rfl
theorem b_index_flow : BindsP d_index_flow := fun _ _ _ _ _ _ us hl => match us, hl with | [_, _], _ => rfl
def d_law_pool : DefI := ⟨"_law_pool", ⟨2, 3, c_law_pool⟩, ["script", "at", "cell"], ["script", "at"], topS 11⟩
theorem k_law_pool : defB nm d_law_pool = true := by kernel_rfl
theorem b_law_pool : BindsP d_law_pool := fun _ _ _ _ _ _ us hl => match us, hl with | [_, _], _ => rfl
def d_law_take : DefI := ⟨"_law_take", ⟨2, 5, c_law_take⟩, ["pool", "many", "got", "one", "two"], ["pool", "many"], topS 12⟩
theorem k_law_take : defB nm d_law_take = true := by kernel_rfl
theorem b_law_take : BindsP d_law_take := fun _ _ _ _ _ _ us hl => match us, hl with | [_, _], _ => rfl
def d_law_same : DefI := ⟨"_law_same", ⟨2, 4, c_law_same⟩, ["one", "two", "both", "k"], ["one", "two"], topS 13⟩
theorem k_law_same : defB nm d_law_same = true := by kernel_rfl
theorem b_law_same : BindsP d_law_same := fun _ _ _ _ _ _ us hl => match us, hl with | [_, _], _ => rfl
def d_law_letters : DefI := ⟨"_law_letters", ⟨2, 4, c_law_letters⟩, ["pool", "many", "abc", "k"], ["pool", "many"], topS 14⟩
theorem k_law_letters : defB nm d_law_letters = true := by kernel_rfl
theorem b_law_letters : BindsP d_law_letters := fun _ _ _ _ _ _ us hl => match us, hl with | [_, _], _ => rfl
def d_law_entries : DefI := ⟨"_law_entries", ⟨1, 6, c_law_entries⟩, ["pool", "names", "entries", "many", "most", "k"], ["pool"], topS 15⟩
theorem k_law_entries : defB nm d_law_entries = true := by kernel_rfl
theorem b_law_entries : BindsP d_law_entries := fun _ _ _ _ _ _ us hl => match us, hl with | [_], _ => rfl
def d_law_values : DefI := ⟨"_law_values", ⟨1, 2, c_law_values⟩, ["pool", "values"], ["pool"], topS 16⟩
theorem k_law_values : defB nm d_law_values = true := by kernel_rfl
theorem b_law_values : BindsP d_law_values := fun _ _ _ _ _ _ us hl => match us, hl with | [_], _ => rfl
def d_law_stretched : DefI := ⟨"_law_stretched", ⟨1, 6, c_law_stretched⟩, ["numbers", "words", "first", "last", "number", "one"], ["numbers"], topS 17⟩
theorem k_law_stretched : defB nm d_law_stretched = true := by kernel_rfl
theorem b_law_stretched : BindsP d_law_stretched := fun _ _ _ _ _ _ us hl => match us, hl with | [_], _ => rfl
def d_law_flow : DefI := ⟨"_law_flow", ⟨2, 5, c_law_flow⟩, ["texts", "values", "style", "rows", "text"], ["texts", "values"], topS 18⟩
theorem k_law_flow : defB nm d_law_flow = true := by kernel_rfl
theorem b_law_flow : BindsP d_law_flow := fun _ _ _ _ _ _ us hl => match us, hl with | [_, _], _ => rfl
def d_law_flows_so : DefI := ⟨"_law_flows_so", ⟨2, 8, c_law_flows_so⟩, ["entries", "values", "handed", "given", "texts", "told", "name", "one"], ["entries", "values"], topS 19⟩
theorem k_law_flows_so : defB nm d_law_flows_so = true := by kernel_rfl
theorem b_law_flows_so : BindsP d_law_flows_so := fun _ _ _ _ _ _ us hl => match us, hl with | [_, _], _ => rfl
def d_law : DefI := ⟨"law", ⟨1, 3, c_law⟩, ["script", "entries", "values"], ["script"], topS 20⟩
theorem k_law : defB nm d_law = true := by kernel_rfl
theorem b_law : BindsP d_law := fun _ _ _ _ _ _ us hl => match us, hl with | [_], _ => rfl
def dl : List DefI := [d_ranges_of, d_write_range, d_write_ranges, d_paragraphs_flow, d_contents_flow, d_numbers_by_name, d_index_flow, d_law_pool, d_law_take, d_law_same, d_law_letters, d_law_entries, d_law_values, d_law_stretched, d_law_flow, d_law_flows_so, d_law]
theorem tb_eq : tbOf dl = tb := rfl
theorem nm_eq : nmOf dl = nm := rfl
theorem allC : AllC (nmOf dl) dl := by
  rw [nm_eq]
  exact ⟨⟨k_ranges_of, b_ranges_of⟩, ⟨⟨k_write_range, b_write_range⟩, ⟨⟨k_write_ranges, b_write_ranges⟩, ⟨⟨k_paragraphs_flow, b_paragraphs_flow⟩, ⟨⟨k_contents_flow, b_contents_flow⟩, ⟨⟨k_numbers_by_name, b_numbers_by_name⟩, ⟨⟨k_index_flow, b_index_flow⟩, ⟨⟨k_law_pool, b_law_pool⟩, ⟨⟨k_law_take, b_law_take⟩, ⟨⟨k_law_same, b_law_same⟩, ⟨⟨k_law_letters, b_law_letters⟩, ⟨⟨k_law_entries, b_law_entries⟩, ⟨⟨k_law_values, b_law_values⟩, ⟨⟨k_law_stretched, b_law_stretched⟩, ⟨⟨k_law_flow, b_law_flow⟩, ⟨⟨k_law_flows_so, b_law_flows_so⟩, ⟨⟨k_law, b_law⟩, True.intro⟩⟩⟩⟩⟩⟩⟩⟩⟩⟩⟩⟩⟩⟩⟩⟩⟩
def names0 : List PySem.Str := ["ranges_of", "write_range", "write_ranges", "STYLE", "paragraphs_flow", "contents_flow", "numbers_by_name", "index_flow", "_law_pool", "_law_take", "_law_same", "_law_letters", "_law_entries", "_law_values", "_law_stretched", "_law_flow", "_law_flows_so"]
def names : List PySem.Str := names0
abbrev R : PySem.W.OpenRow := PySem.W.OpenLaw.row PySem.Challenge.rw_pagestyles_k74_contents_and_index_as_flo
theorem run0 (w : World) : HandSHeadRun.RunEq R (PySem.W.view R.prog [20]) (hkOf dl cs) (obOf dl cs) 4000 names w := by
  intro os
  kernel_rfl
end K74

set_option Elab.async false
set_option linter.all false
set_option maxRecDepth 100000
set_option maxHeartbeats 4000000
/-! K74F: what the defs do, one by one. -/
namespace K74
open PySem Vm
abbrev G := gvOf cs

/-! ### the pool -/
def Pool (S : Sto) (p : Nat) (k : Int) : Prop := ∃ c f s : Int, 0 ≤ c ∧ 0 ≤ k ∧ S[p]? = some (.lst [.int c, .int k, .int f, .int s, .int 0])
theorem take_ok (n : Nat) {S : Sto} {p : Nat} {k many : Int} (h : Pool S p k) (hm : 0 < many) (hm2 : many < 1073741824) (hk : k < 1000000) :
    ∃ r cell, run tb G (n + 1) 8 [.ref p, .int many] S = .ok (.int r) (S.set p cell) ∧ 0 ≤ r ∧ r < many ∧ Pool (S.set p cell) p (k + 1) := by
  obtain ⟨c, f, s, hc, hk0, h⟩ := h
  have hp := st_lt h
  have h1 : (S.set p (.lst [.int c, .int (k + 1), .int f, .int s, .int 0]))[p]? = some (.lst [.int c, .int (k + 1), .int f, .int s, .int 0]) := List.getElem?_set_self hp
  obtain ⟨d, S', e, r, cell, rfl, rfl, q⟩ := r_w (tb := tb) (gv := G) (n := n) (f := 8) (fn := ⟨2, 5, c_law_take⟩) (ds := [.ref p, .int many]) (S := S) (Q := fun d S' => ∃ r cell, d = .int r ∧ S' = S.set p cell ∧ 0 ≤ r ∧ r < many ∧ Pool (S.set p cell) p (k + 1)) rfl rfl (by
    show wO (exB _ _ c_law_take [some (.ref p), some (.int many), none, none, none] S) _
    unfold c_law_take
    refine w_asg (e_bin (e_ix (e_var rfl) e_cst (ix_lst h rfl)) e_cst rfl) (a_ix (e_var rfl) e_cst (st_set_l h rfl)) ?_
    show wO (exB _ _ _ _ (S.set p (.lst [.int c, .int (k + 1), .int f, .int s, .int 0]))) _
    refine w_ite (t_cmp (e_ix (e_var rfl) e_cst (ix_lst h1 rfl)) e_cst rfl) (fun _ => ?_) (fun _ => w_nil ?_)
    · refine w_asg (e_bin (e_blt (es_cons (e_ix (e_var rfl) e_cst (ix_lst h1 rfl)) es_nil) rfl) (e_var rfl) (bi_mod hm)) a_nm ?_
      refine w_asg (e_bin (e_ix (e_var rfl) e_cst (ix_lst h1 rfl)) (e_var rfl) (bi_div ⟨hm, hm2⟩)) (a_ix (e_var rfl) e_cst (st_set_l h1 rfl)) ?_
      refine w_ret (e_var rfl) ⟨_, _, rfl, c % many, _, rfl, List.set_set .., Int.emod_nonneg _ (by omega), Int.emod_lt_of_pos _ hm, ?_⟩
      exact ⟨c / many, f, s, Int.ediv_nonneg hc (by omega), by omega, List.getElem?_set_self hp⟩
    · have l1 : bltop .int [.int ((s * 48271 + (k + 1) * 69621 + 11 : Int))] (S.set p (.lst [.int c, .int (k + 1), .int f, .int s, .int 0])) = .ok (.int (s * 48271 + (k + 1) * 69621 + 11 : Int)) (S.set p (.lst [.int c, .int (k + 1), .int f, .int s, .int 0])) := rfl
      refine w_asg (e_bin (e_blt (es_cons (e_bin (e_bin (e_bin (e_ix (e_var rfl) e_cst (ix_lst h1 rfl)) e_cst (bi_mul (.inr (by decide)))) (e_bin (e_ix (e_var rfl) e_cst (ix_lst h1 rfl)) e_cst (bi_mul (.inr (by decide)))) rfl) e_cst rfl) es_nil) l1) e_cst (bi_mod (by decide))) a_nm ?_
      generalize hg : (s * 48271 + (k + 1) * 69621 + 11 : Int) % 2147483647 = one
      refine w_asg (e_bin (e_blt (es_cons (e_bin (e_bin (e_bin (e_var rfl) e_cst (bi_mul (.inr (by decide)))) (e_bin (e_var rfl) e_cst (bi_div (by decide))) rfl)
        (e_bin (e_bin (e_ix (e_var rfl) e_cst (ix_lst h1 rfl)) (e_ix (e_var rfl) e_cst (ix_lst h1 rfl)) (bi_mul (.inr ⟨by omega, by omega⟩))) e_cst (bi_mul (.inr (by decide)))) rfl) es_nil) rfl) e_cst (bi_mod (by decide))) a_nm ?_
      generalize hg2 : (one * 16807 + one / 65536 + (k + 1) * (k + 1) * 40692 : Int) % 2147483399 = two
      refine w_ret (e_bin (e_blt (es_cons (e_bin (e_var rfl) (e_bin (e_ix (e_var rfl) e_cst (ix_lst h1 rfl)) e_cst rfl) (bi_div ⟨by omega, by omega⟩)) es_nil) rfl) (e_var rfl) (bi_mod hm)) ⟨_, _, rfl, _, _, rfl, rfl, Int.emod_nonneg _ (by omega), Int.emod_lt_of_pos _ hm, ?_⟩
      exact ⟨c, f, s, hc, by omega, h1⟩)
  exact ⟨r, cell, e, q⟩
theorem pool_ok (n : Nat) {S : Sto} {xs : List Int} {at_ : Nat} (ha : at_ < 2) : ∃ d S', run tb G (n + 1) 7 [.rol (xs.map .int), .int at_] S = .ok d S' ∧ d = .ref S.length ∧ ∃ c, S' = S ++ [c] ∧ Pool S' S.length 0 := by
  refine r_w (fn := ⟨2, 3, c_law_pool⟩) rfl rfl ?_
  show wO (exB _ _ c_law_pool [some (.rol (xs.map .int)), some (.int at_), none] S) _
  unfold c_law_pool
  refine w_asg e_cst a_nm ?_
  refine w_join (fun ρ' S' => ∃ c : Int, 0 ≤ c ∧ ρ' = [some (.rol (xs.map .int)), some (.int at_), some (.int c)] ∧ S' = S) (t_cmp (e_var rfl) (e_blt (es_cons (e_var rfl) es_nil) rfl) rfl) (fun e => ?_) (fun e => ?_) (fun ρ' S' h => ?_)
  · have hl : at_ < xs.length := by
      have := of_decide_eq_true e
      simpa using this
    have hx : (xs.map Dv.int)[at_]? = some (.int xs[at_]) := by rw [List.getElem?_map, List.getElem?_eq_getElem hl]; rfl
    refine w_asg (e_blt (es_cons (e_blt (es_cons (e_ix (e_var rfl) (e_var rfl) (ix_rol (L2.atI_nat hx))) es_nil) rfl) es_nil) rfl) a_nm (w_nil ⟨_, _, rfl, _, ?_, rfl, rfl⟩)
    split <;> omega
  · exact w_nil ⟨_, _, rfl, 0, Int.le_refl _, rfl, rfl⟩
  · obtain ⟨c, hc, rfl, rfl⟩ := h
    refine w_ret (e_lst (es_cons (e_var rfl) (es_cons e_cst (es_cons (e_blt (es_cons (e_cmp (e_var rfl) (e_bin e_cst e_cst rfl) rfl) es_nil) rfl) (es_cons (e_bin (e_blt (es_cons (e_bin (e_var rfl) (e_bin (e_var rfl) e_cst (bi_mul (.inr (by decide)))) rfl) es_nil) rfl) e_cst (bi_mod (by decide))) (es_cons e_cst es_nil)))))) ⟨_, _, rfl, rfl, _, rfl, ?_⟩
    exact ⟨c, _, _, hc, Int.le_refl _, st_0⟩
theorem letters_ok (n : Nat) {S : Sto} {p : Nat} {k m : Int} (h : Pool S p k) (hm : 0 ≤ m) (hm2 : m ≤ 100) (hk : k + m < 1000000) :
    ∃ d S', run tb G (n + 2) 10 [.ref p, .int m] S = .ok d S' ∧ ∃ x : Str, d = .str x ∧ x.length = m.toNat ∧ Pool S' p (k + m) ∧ Fr S S' p := by
  refine r_w (fn := ⟨2, 4, c_law_letters⟩) rfl rfl ?_
  show wO (exB _ _ c_law_letters [some (.ref p), some (.int m), none, none] S) _
  unfold c_law_letters
  refine w_asg e_cst a_nm ?_
  obtain ⟨ys, S1, e1, ss, hy, h1, h2, h3, h4⟩ := e_lc (cl := run tb G (n + 1)) (gv := G) (own := [("k", 3)]) (g := .nm 3) (it := .rng (.cons (.var 1) .nil)) (ifs := .none) (e := .ix (.var 2) (.call 8 (.cons (.var 0) (.cons (.cst (.int 26)) .nil))))
    (ρ := [some (.ref p), some (.int m), some (.str "abcdefghijklmnopqrstuvwxyz"), none]) (S := S) (fun i acc S' => ∃ ss : List Str, acc = ss.map .str ∧ ss.length = i ∧ (∀ s ∈ ss, s.length = 1) ∧ Pool S' p (k + i) ∧ Fr S S' p)
    (i_rng (es_cons (e_var rfl) es_nil) (rg_1 ⟨by omega, by omega⟩)) ⟨[], rfl, rfl, (fun _ z => nomatch z), by simpa using h, Fr.refl _ _⟩ (by
    intro i acc S' hi hI
    refine ⟨trivial, fun _ => ?_⟩
    obtain ⟨ss, e1, e2, _⟩ := hI
    rw [rangeL_len] at hi
    rw [e1, List.length_map, e2]
    show i < 16777216
    omega) (by
    intro i x acc S' hx hI
    obtain ⟨ss, e1, e2, e3, e4, e5⟩ := hI
    obtain ⟨rfl, hi⟩ := rangeL_at hx
    obtain ⟨r, cell, ht, hr0, hr1, hp⟩ := take_ok n (many := 26) e4 (by decide) (by decide) (by omega)
    refine ⟨_, _, a_nm, true, _, o_none, .inl ⟨rfl, ?_⟩⟩
    obtain ⟨r', rfl⟩ := Int.eq_ofNat_of_zero_le hr0
    have hlt : r' < (("abcdefghijklmnopqrstuvwxyz" : Str).cps.toList).length := by
      have : (("abcdefghijklmnopqrstuvwxyz" : Str).cps.toList).length = 26 := by decide
      omega
    refine ⟨.str ⟨#[(("abcdefghijklmnopqrstuvwxyz" : Str).cps.toList)[r']]⟩, S'.set p cell, e_ix (e_var rfl) (e_call (es_cons (e_var rfl) (es_cons e_cst es_nil)) ht) ?_, ss ++ [⟨#[(("abcdefghijklmnopqrstuvwxyz" : Str).cps.toList)[r']]⟩], ?_, ?_, ?_, ?_, e5.trans (Fr.set _ _ _)⟩
    · exact ix_str (by decide) (L2.atI_nat (List.getElem?_eq_getElem hlt))
    · rw [e1, List.map_append]; rfl
    · rw [List.length_append, e2]; rfl
    · intro s hs
      rcases List.mem_append.mp hs with hs | hs
      · exact e3 s hs
      · rw [List.mem_singleton] at hs
        subst hs
        rfl
    · have : k + ((i + 1 : Nat) : Int) = k + i + 1 := by omega
      rw [this]
      exact hp)
  rw [rangeL_len] at h1 h3
  subst hy
  refine w_ret (e_mth e_cst rfl (es_cons e1 es_nil) (mt_join st_0 ?_)) ⟨_, _, rfl, _, rfl, ?_, ?_, h4.trans (Fr.app _ _ _)⟩
  · have hs : (ss.map (·.length)).sum ≤ ss.length * 1 := by
      clear e1 h1 h3
      induction ss with
      | nil => exact Nat.le_refl _
      | cons a r ih =>
        rw [List.map_cons, List.sum_cons, List.length_cons, h2 a List.mem_cons_self]
        have := ih fun s hs => h2 s (List.mem_cons_of_mem _ hs)
        omega
    have hz : ("" : Str).length = 0 := by decide
    rw [hz]
    show _ ≤ 16777216
    omega
  · rw [PySem.W.KT.join_ones ss h2, h1]
  · rw [show (m.toNat : Int) = m by omega] at h3
    obtain ⟨c, f, s, q1, q2, q3⟩ := h3
    exact ⟨c, f, s, q1, q2, st_old q3⟩
/-! ### what is drawn -/
abbrev Ent := Str × Int
def entD (e : Ent) : Dv := .tup [.str e.1, .int e.2]
def EntOk (e : Ent) : Prop := e.1.length ≤ 8 ∧ 1 ≤ e.2 ∧ e.2 ≤ 9999
theorem pool_app {S : Sto} {p : Nat} {k : Int} (h : Pool S p k) (l : List Cel) : Pool (S ++ l) p k := by
  obtain ⟨c, f, s, h1, h2, h3⟩ := h
  exact ⟨c, f, s, h1, h2, st_old h3⟩
theorem pool_set {S : Sto} {p j : Nat} {k : Int} (h : Pool S p k) (hj : j ≠ p) (c : Cel) : Pool (S.set j c) p k := by
  obtain ⟨c', f, s, h1, h2, h3⟩ := h
  exact ⟨c', f, s, h1, h2, by rw [List.getElem?_set_ne hj]; exact h3⟩
theorem pool_lt {S : Sto} {p : Nat} {k : Int} (h : Pool S p k) : p < S.length := by
  obtain ⟨c, f, s, h1, h2, h3⟩ := h
  exact st_lt h3
/-- the loop's state -/
structure EI (p a b : Nat) (S : Sto) (names : List Str) (es : List Ent) (k : Int) (i : Nat) : Prop where
  pool : Pool S p k
  hk : k ≤ 3 + 12 * i
  ha : S[a]? = some (.lst (names.map .str))
  hb : S[b]? = some (.lst (es.map entD))
  pa : a ≠ p
  pb : b ≠ p
  ab : a ≠ b
  ln : names.length ≤ i
  le : es.length = i
  ok : ∀ x ∈ names, x.length ≤ 8
  oke : ∀ e ∈ es, EntOk e
theorem entries_ok (n : Nat) {S : Sto} {p : Nat} (h : Pool S p 0) :
    ∃ d S', run tb G (n + 3) 11 [.ref p] S = .ok d S' ∧ ∃ (r : Nat) (es : List Ent), d = .ref r ∧ S'[r]? = some (.lst (es.map entD)) ∧ es.length ≤ 29 ∧ ∀ e ∈ es, EntOk e := by
  refine r_w (fn := ⟨1, 6, c_law_entries⟩) rfl rfl ?_
  show wO (exB _ _ c_law_entries [some (.ref p), none, none, none, none, none] S) _
  unfold c_law_entries
  have pl := pool_lt h
  refine w_asg (e_lst es_nil) a_nm ?_
  refine w_asg (e_lst es_nil) a_nm ?_
  obtain ⟨m1, c1, t1, m1a, m1b, h1⟩ := take_ok (n + 1) (many := 21) (pool_app (pool_app h [.lst []]) [.lst []]) (by decide) (by decide) (by decide)
  refine w_asg (e_call (es_cons (e_var rfl) (es_cons e_cst es_nil)) t1) a_nm ?_
  obtain ⟨m2, c2, t2, m2a, m2b, h2⟩ := take_ok (n + 1) (many := 8) h1 (by decide) (by decide) (by decide)
  have ga : (((S ++ [Cel.lst []] ++ [Cel.lst []]).set p c1).set p c2)[S.length]? = some (.lst []) := by
    rw [List.getElem?_set_ne (by omega), List.getElem?_set_ne (by omega), List.append_assoc]
    exact st_0
  have gb : (((S ++ [Cel.lst []] ++ [Cel.lst []]).set p c1).set p c2)[(S ++ [Cel.lst []]).length]? = some (.lst []) := by
    rw [List.getElem?_set_ne (by rw [List.length_append]; simp; omega), List.getElem?_set_ne (by rw [List.length_append]; simp; omega)]
    exact st_0
  generalize ((S ++ [Cel.lst []] ++ [Cel.lst []]).set p c1).set p c2 = S2 at t2 h2 ga gb
  have hab : S.length ≠ (S ++ [Cel.lst []]).length := by simp
  have hbp : (S ++ [Cel.lst []]).length ≠ p := by simp; omega
  have hap : S.length ≠ p := by omega
  show wO (exB _ _ _ [some (.ref p), some (.ref S.length), some (.ref (S ++ [Cel.lst []]).length), some (.int m1), none, none] _) _
  generalize S.length = a at ga hab hap
  generalize (S ++ [Cel.lst []]).length = b at gb hab hbp
  refine w_join (fun ρ' S' => ∃ m : Int, 0 ≤ m ∧ m ≤ 29 ∧ ρ' = [some (.ref p), some (.ref a), some (.ref b), some (.int m), none, none] ∧ S' = S2) (t_cmp (e_call (es_cons (e_var rfl) (es_cons e_cst es_nil)) t2) e_cst rfl)
    (fun _ => w_asg e_cst a_nm (w_nil ⟨_, _, rfl, 29, by decide, by decide, rfl, rfl⟩)) (fun _ => w_nil ⟨_, _, rfl, m1, m1a, by omega, rfl, rfl⟩) (fun ρ' S' hJ => ?_)
  obtain ⟨m, hm0, hm1, rfl, rfl⟩ := hJ
  obtain ⟨m3, c3, t3, m3a, m3b, h3⟩ := take_ok (n + 1) (many := 3) (pool_app h2 [.lst [.int 9, .int 99, .int 9999]]) (by decide) (by decide) (by decide)
  have hb2 := st_lt gb
  have ha2 := st_lt ga
  have hp2 := pool_lt h2
  have gm : ((S' ++ [Cel.lst [.int 9, .int 99, .int 9999]]).set p c3)[S'.length]? = some (.lst [.int 9, .int 99, .int 9999]) := by
    rw [List.getElem?_set_ne (by omega)]
    exact st_0
  have hmost : ∃ most : Int, L2.atI [Dv.int 9, .int 99, .int 9999] m3 = some (.int most) ∧ 0 < most ∧ most ≤ 9999 := by
    have : m3 = 0 ∨ m3 = 1 ∨ m3 = 2 := by omega
    rcases this with rfl | rfl | rfl
    · exact ⟨9, rfl, by decide, by decide⟩
    · exact ⟨99, rfl, by decide, by decide⟩
    · exact ⟨9999, rfl, by decide, by decide⟩
  obtain ⟨most, hmo, mo1, mo2⟩ := hmost
  refine w_asg (e_ix (e_lst (es_cons e_cst (es_cons e_cst (es_cons e_cst es_nil)))) (e_call (es_cons (e_var rfl) (es_cons e_cst es_nil)) t3) (ix_lst gm hmo)) a_nm ?_
  show wO (exB _ _ _ [some (.ref p), some (.ref a), some (.ref b), some (.int m), some (.int most), none] _) _
  refine w_for (fun i ρ S => ∃ (names : List Str) (es : List Ent) (k : Int) (o : Option Dv), ρ = [some (.ref p), some (.ref a), some (.ref b), some (.int m), some (.int most), o] ∧ EI p a b S names es k i) (i_rng (es_cons (e_var rfl) es_nil) (rg_1 ⟨by omega, by omega⟩)) ?_ (fun _ _ _ _ _ => trivial) (fun i x ρ S4 hx hI => ?_) (fun ρ S4 hI => ?_)
  · refine ⟨[], [], _, none, rfl, h3, by omega, ?_, ?_, hap, hbp, hab, Nat.le_refl _, rfl, (fun _ z => nomatch z), (fun _ z => nomatch z)⟩
    · rw [List.getElem?_set_ne (Ne.symm hap)]
      exact st_old ga
    · rw [List.getElem?_set_ne (Ne.symm hbp)]
      exact st_old gb
  · obtain ⟨rfl, hi⟩ := rangeL_at hx
    obtain ⟨names, es, k, o, rfl, I⟩ := hI
    refine ⟨_, _, a_nm, ?_⟩
    have hk2 : k < 999000 := by have := I.hk; omega
    have hk0 : 0 ≤ k := by obtain ⟨_, _, _, _, q, _⟩ := I.pool; exact q
    show wO (exB _ _ _ [some (.ref p), some (.ref a), some (.ref b), some (.int m), some (.int most), some (.int (0 + i))] S4) _
    -- a new name, or not
    have tail : ∀ (names : List Str) (k' : Int) (S5 : Sto), names ≠ [] → Pool S5 p k' → k' ≤ 3 + 12 * i + 10 → S5[a]? = some (.lst (names.map .str)) → S5[b]? = some (.lst (es.map entD)) → names.length ≤ i + 1 → (∀ x ∈ names, x.length ≤ 8) →
        wO (exB (run tb G (n + 2)) G (.cons (.ex (.mth .append (.var 2) (.cons (.tup (.cons (.ix (.var 1) (.call 8 (.cons (.var 0) (.cons (.blt .len (.cons (.var 1) .nil)) .nil)))) (.cons (.bin .Add (.cst (.int 1)) (.call 8 (.cons (.var 0) (.cons (.var 4) .nil)))) .nil))) .nil))) .nil)
          [some (.ref p), some (.ref a), some (.ref b), some (.int m), some (.int most), some (.int (0 + i))] S5) fun o => ∃ ρ' S', (o = .nx ρ' S' ∨ o = .ct ρ' S') ∧ ∃ (names : List Str) (es : List Ent) (k : Int) (o : Option Dv), ρ' = [some (.ref p), some (.ref a), some (.ref b), some (.int m), some (.int most), o] ∧ EI p a b S' names es k (i + 1) := by
      intro names k' S5 hne hP hk' ga5 gb5 hln hok
      have hnl : 0 < names.length := List.length_pos_iff.mpr hne
      obtain ⟨r1, c5, t5, r1a, r1b, hP1⟩ := take_ok (n + 1) (many := (names.length : Int)) hP (by omega) (by omega) (by omega)
      obtain ⟨r2, c6, t6, r2a, r2b, hP2⟩ := take_ok (n + 1) (many := most) hP1 (by omega) (by omega) (by omega)
      have ga6 : (S5.set p c5)[a]? = some (.lst (names.map .str)) := by rw [List.getElem?_set_ne (Ne.symm I.pa)]; exact ga5
      have gb6 : ((S5.set p c5).set p c6)[b]? = some (.lst (es.map entD)) := by rw [List.getElem?_set_ne (Ne.symm I.pb), List.getElem?_set_ne (Ne.symm I.pb)]; exact gb5
      have gb4 : (S5[b]?) = some (.lst (es.map entD)) := gb5
      obtain ⟨r1', rfl⟩ := Int.eq_ofNat_of_zero_le r1a
      have hr1 : r1' < names.length := by omega
      have hx1 : (names.map Dv.str)[r1']? = some (.str names[r1']) := by rw [List.getElem?_map, List.getElem?_eq_getElem hr1]; rfl
      have hlen : bltop .len [.ref a] S5 = .ok (.int (names.length : Int)) S5 := by rw [bl_len_l ga5, List.length_map]
      refine w_ex (e_mth (e_var rfl) (my_append gb5) (es_cons (e_tup (es_cons (e_ix (e_var rfl) (e_call (es_cons (e_var rfl) (es_cons (e_blt (es_cons (e_var rfl) es_nil) hlen) es_nil)) t5) (ix_lst ga6 (L2.atI_nat hx1))) (es_cons (e_bin e_cst (e_call (es_cons (e_var rfl) (es_cons (e_var rfl) es_nil)) t6) rfl) es_nil))) es_nil) (mt_append gb6 ?_)) (w_nil (w_go ?_))
      · rw [List.length_map, I.le]
        show i < 16777216
        omega
      · refine ⟨names, es ++ [(names[r1'], 1 + r2)], _, _, rfl, pool_set hP2 I.pb _, by omega, ?_, ?_, I.pa, I.pb, I.ab, hln, by rw [List.length_append, I.le]; rfl, hok, fun e he => ?_⟩
        · rw [List.getElem?_set_ne (Ne.symm I.ab), List.getElem?_set_ne (Ne.symm I.pa)]
          exact ga6
        · rw [List.getElem?_set_self (st_lt gb6), List.map_append]
          rfl
        · rcases List.mem_append.mp he with he | he
          · exact I.oke e he
          · rw [List.mem_singleton] at he
            subst he
            exact ⟨hok _ (List.getElem_mem hr1), by show 1 ≤ 1 + r2; omega, by show 1 + r2 ≤ 9999; omega⟩
    have lenA : bltop .len [.ref a] S4 = .ok (.int (names.length : Int)) S4 := by rw [bl_len_l I.ha, List.length_map]
    have grow : ∀ (k' : Int) (S5 : Sto), Pool S5 p k' → k' ≤ 3 + 12 * i + 1 → S5[a]? = some (.lst (names.map .str)) → S5[b]? = some (.lst (es.map entD)) →
        wO (exB (run tb G (n + 2)) G (.cons (.ex (.mth .append (.var 1) (.cons (.call 10 (.cons (.var 0) (.cons (.bin .Add (.cst (.int 1)) (.call 8 (.cons (.var 0) (.cons (.cst (.int 8)) .nil)))) .nil))) .nil))) .nil)
          [some (.ref p), some (.ref a), some (.ref b), some (.int m), some (.int most), some (.int (0 + i))] S5) fun o => ∃ ρ' S', o = .nx ρ' S' ∧ ρ' = [some (.ref p), some (.ref a), some (.ref b), some (.int m), some (.int most), some (.int (0 + i))] ∧
            ∃ (names : List Str) (k' : Int), names ≠ [] ∧ Pool S' p k' ∧ k' ≤ 3 + 12 * i + 10 ∧ S'[a]? = some (.lst (names.map .str)) ∧ S'[b]? = some (.lst (es.map entD)) ∧ names.length ≤ i + 1 ∧ (∀ x ∈ names, x.length ≤ 8) := by
      intro k' S5 hP hk' ga5 gb5
      obtain ⟨r1, c5, t5, r1a, r1b, hP1⟩ := take_ok (n + 1) (many := 8) hP (by decide) (by decide) (by omega)
      obtain ⟨d, S6, t6, x, rfl, hxl, hP2, F⟩ := letters_ok n (m := 1 + r1) hP1 (by omega) (by omega) (by omega)
      have ga6 := F.get (show (S5.set p c5)[a]? = _ by rw [List.getElem?_set_ne (Ne.symm I.pa)]; exact ga5) I.pa
      have gb6 := F.get (show (S5.set p c5)[b]? = _ by rw [List.getElem?_set_ne (Ne.symm I.pb)]; exact gb5) I.pb
      refine w_ex (e_mth (e_var rfl) (my_append ga5) (es_cons (e_call (es_cons (e_var rfl) (es_cons (e_bin e_cst (e_call (es_cons (e_var rfl) (es_cons e_cst es_nil)) t5) rfl) es_nil)) t6) es_nil) (mt_append ga6 ?_)) (w_nil ⟨_, _, rfl, rfl, names ++ [x], k' + 1 + (1 + r1), by simp, pool_set hP2 I.pa _, by omega, ?_, ?_, ?_, fun y hy => ?_⟩)
      · rw [List.length_map]
        have := I.ln
        show _ < 16777216
        omega
      · rw [List.getElem?_set_self (st_lt ga6), List.map_append]
        rfl
      · rw [List.getElem?_set_ne I.ab]
        exact gb6
      · have := I.ln
        rw [List.length_append]
        show _ + 1 ≤ _
        omega
      · rcases List.mem_append.mp hy with hy | hy
        · exact I.ok y hy
        · rw [List.mem_singleton] at hy
          subst hy
          rw [hxl]
          omega
    have hln := I.ln
    by_cases hz : names = []
    · subst hz
      refine w_ite (t_bo (tb_or_t (t_cmp (e_blt (es_cons (e_var rfl) es_nil) lenA) e_cst rfl))) (fun _ => ?_) (fun z => nomatch z)
      obtain ⟨ρ', S', e, rfl, names', k', q1, q2, q3, q4, q5, q6, q7⟩ := (grow k S4 I.pool (by have := I.hk; omega) I.ha I.hb).go
      exact w_eq e (tail names' k' S' q1 q2 q3 q4 q5 q6 q7)
    · have hnz : (decide ((names.length : Int) = 0)) = false := decide_eq_false fun z => hz (List.length_eq_zero_iff.mp (by omega))
      obtain ⟨r0, c0, t0, r0a, r0b, hP0⟩ := take_ok (n + 1) (many := 4) I.pool (by decide) (by decide) (by omega)
      have ga5 : (S4.set p c0)[a]? = some (.lst (names.map .str)) := by rw [List.getElem?_set_ne (Ne.symm I.pa)]; exact I.ha
      have gb5 : (S4.set p c0)[b]? = some (.lst (es.map entD)) := by rw [List.getElem?_set_ne (Ne.symm I.pb)]; exact I.hb
      refine w_ite (t_bo (tb_or_f (t_cmp (e_blt (es_cons (e_var rfl) es_nil) lenA) e_cst (by rw [show cmpop .Eq (.int (names.length : Int)) (.int 0) S4 = .ok (.bl (decide ((names.length : Int) = 0))) S4 from rfl, hnz])) (tb_one (t_cmp (e_call (es_cons (e_var rfl) (es_cons e_cst es_nil)) t0) e_cst rfl)))) (fun _ => ?_) (fun _ => ?_)
      · obtain ⟨ρ', S', e, rfl, names', k', q1, q2, q3, q4, q5, q6, q7⟩ := (grow (k + 1) (S4.set p c0) hP0 (by have := I.hk; omega) ga5 gb5).go
        exact w_eq e (tail names' k' S' q1 q2 q3 q4 q5 q6 q7)
      · refine w_nil ?_
        exact tail names (k + 1) (S4.set p c0) hz hP0 (by have := I.hk; omega) ga5 gb5 (by omega) I.ok
  · obtain ⟨names, es, k, o, rfl, I⟩ := hI
    rw [rangeL_len] at I
    refine w_ret (e_var rfl) ⟨_, _, rfl, b, es, rfl, I.hb, ?_, I.oke⟩
    rw [I.le]
    omega
structure Va where
  size : Int
  lead : Int
  face : Str
  align : Str
  least : Int
  place : Str
  keep : Str
  indent : Int
  above : Int
  below : Int
abbrev KV := List (Key × Dv)
def vaK (v : Va) : KV := [(.inr "size", .int v.size), (.inr "lead", .int v.lead), (.inr "face", .str v.face), (.inr "align", .str v.align), (.inr "least", .int v.least), (.inr "place", .str v.place), (.inr "keep", .str v.keep), (.inr "indent", .int v.indent), (.inr "above", .int v.above), (.inr "below", .int v.below)]
/-- the state between the updates -/
structure VI (p a : Nat) (S0 S : Sto) (k : Int) (kvs : KV) : Prop where
  pool : Pool S p k
  ha : S[a]? = some (.dct kvs)
  pa : a ≠ p
  fr : Fr S0 S p
/-- a change of the one new cell a, behind S0 -/
theorem vi_next {p a : Nat} {S0 S S1 : Sto} {k k1 : Int} {kvs more : KV} {c : Cel} (I : VI p a S0 S k kvs) (h1 : Pool S1 p k1) (f : Fr S S1 p) (h0 : S0.length ≤ a) : VI p a S0 ((S1 ++ [c]).set a (.dct more)) k1 more := by
  have ha := f.get I.ha I.pa
  refine ⟨pool_set (pool_app h1 _) I.pa _, List.getElem?_set_self (by have := st_lt ha; simp; omega), I.pa, ⟨?_, fun j hj hn => ?_⟩⟩
  · have := f.len
    have := I.fr.len
    simp
    omega
  · rw [List.getElem?_set_ne (by omega), List.getElem?_append_left (by have := f.len; have := I.fr.len; omega)]
    exact (I.fr.trans f).old j hj hn
theorem values_ok (n : Nat) {S : Sto} {p : Nat} (h : Pool S p 0) :
    ∃ d S', run tb G (n + 2) 12 [.ref p] S = .ok d S' ∧ ∃ (r : Nat) (v : Va), d = .ref r ∧ S'[r]? = some (.dct (vaK v)) ∧ Fr S S' p := by
  refine r_w (fn := ⟨1, 2, c_law_values⟩) rfl rfl ?_
  show wO (exB _ _ c_law_values [some (.ref p), none] S) _
  unfold c_law_values
  have pl := pool_lt h
  obtain ⟨x1, c1, t1, _, _, h1⟩ := take_ok n (many := 12) h (by decide) (by decide) (by decide)
  obtain ⟨x2, c2, t2, _, _, h2⟩ := take_ok n (many := 99) h1 (by decide) (by decide) (by decide)
  refine w_asg (e_dct (ep_cons e_cst (e_bin e_cst (e_call (es_cons (e_var rfl) (es_cons e_cst es_nil)) t1) rfl) (ep_cons e_cst (e_bin e_cst (e_call (es_cons (e_var rfl) (es_cons e_cst es_nil)) t2) rfl) ep_nil rfl) rfl)) a_nm ?_
  have m0 : mergeD [] [(.inr "size", .int (1 + x1)), (.inr "lead", .int (1 + x2))] = [(.inr "size", .int (1 + x1)), (.inr "lead", .int (1 + x2))] := by rfl
  rw [m0]
  have len2 : ((S.set p c1).set p c2).length = S.length := by simp
  have f2 : Fr S ((S.set p c1).set p c2) p := (Fr.set S p c1).trans (Fr.set _ p c2)
  have I : VI p ((S.set p c1).set p c2).length S (((S.set p c1).set p c2) ++ [.dct [(.inr "size", .int (1 + x1)), (.inr "lead", .int (1 + x2))]]) (0 + 1 + 1) [(.inr "size", .int (1 + x1)), (.inr "lead", .int (1 + x2))] :=
    ⟨pool_app h2 _, st_0, by rw [len2]; omega, f2.trans (Fr.app _ _ _)⟩
  have h0 : S.length ≤ ((S.set p c1).set p c2).length := by rw [len2]; exact Nat.le_refl _
  show wO (exB _ _ _ [some (.ref p), some (.ref ((S.set p c1).set p c2).length)] _) _
  generalize ((S.set p c1).set p c2).length = a at I h0
  generalize ((S.set p c1).set p c2) ++ [Cel.dct [(.inr "size", .int (1 + x1)), (.inr "lead", .int (1 + x2))]] = S2 at I
  -- face, align
  obtain ⟨x3, c3, t3, x3a, x3b, h3⟩ := take_ok n (many := 2) (pool_app I.pool [.lst [.str "plain", .str "bold"]]) (by decide) (by decide) (by decide)
  have g3 : ((S2 ++ [Cel.lst [.str "plain", .str "bold"]]).set p c3)[S2.length]? = some (.lst [.str "plain", .str "bold"]) := by
    rw [List.getElem?_set_ne (by have := pool_lt I.pool; omega)]
    exact st_0
  have p3 : ∃ y : Str, L2.atI [Dv.str "plain", .str "bold"] x3 = some (.str y) := by
    have : x3 = 0 ∨ x3 = 1 := by omega
    rcases this with rfl | rfl
    · exact ⟨_, rfl⟩
    · exact ⟨_, rfl⟩
  obtain ⟨face, p3⟩ := p3
  have f3 : Fr S2 ((S2 ++ [Cel.lst [.str "plain", .str "bold"]]).set p c3) p := (Fr.app _ _ _).trans (Fr.set _ _ _)
  generalize (S2 ++ [Cel.lst [.str "plain", .str "bold"]]).set p c3 = S3 at t3 h3 g3 f3
  obtain ⟨x4, c4, t4, x4a, x4b, h4⟩ := take_ok n (many := 2) (pool_app h3 [.lst [.str "both", .str "left"]]) (by decide) (by decide) (by decide)
  have g4 : ((S3 ++ [Cel.lst [.str "both", .str "left"]]).set p c4)[S3.length]? = some (.lst [.str "both", .str "left"]) := by
    rw [List.getElem?_set_ne (by have := pool_lt h3; omega)]
    exact st_0
  have p4 : ∃ y : Str, L2.atI [Dv.str "both", .str "left"] x4 = some (.str y) := by
    have : x4 = 0 ∨ x4 = 1 := by omega
    rcases this with rfl | rfl
    · exact ⟨_, rfl⟩
    · exact ⟨_, rfl⟩
  obtain ⟨align, p4⟩ := p4
  have f4 : Fr S2 ((S3 ++ [Cel.lst [.str "both", .str "left"]]).set p c4) p := f3.trans ((Fr.app _ _ _).trans (Fr.set _ _ _))
  generalize (S3 ++ [Cel.lst [.str "both", .str "left"]]).set p c4 = S4 at t4 h4 g4 f4
  have la : a < S4.length := st_lt (f4.get I.ha I.pa)
  refine w_ex (e_mth (e_var rfl) (my_update I.ha) (es_cons (e_dct (ep_cons e_cst (e_ix (e_lst (es_cons e_cst (es_cons e_cst es_nil))) (e_call (es_cons (e_var rfl) (es_cons e_cst es_nil)) t3) (ix_lst g3 p3)) (ep_cons e_cst (e_ix (e_lst (es_cons e_cst (es_cons e_cst es_nil))) (e_call (es_cons (e_var rfl) (es_cons e_cst es_nil)) t4) (ix_lst g4 p4)) ep_nil rfl) rfl)) es_nil)
    (mt_upd (st_old (f4.get I.ha I.pa)) st_0 (Nat.ne_of_lt la) (by exact Nat.le_of_ble_eq_true rfl))) ?_
  rw [show ∀ x y z u : Dv, mergeD [(.inr "size", x), (.inr "lead", y)] (mergeD [] [(.inr "face", z), (.inr "align", u)]) = [(.inr "size", x), (.inr "lead", y), (.inr "face", z), (.inr "align", u)] from fun _ _ _ _ => rfl]
  have I2 := vi_next (c := .dct (mergeD [] [(.inr "face", .str face), (.inr "align", .str align)])) (more := [(.inr "size", .int (1 + x1)), (.inr "lead", .int (1 + x2)), (.inr "face", .str face), (.inr "align", .str align)]) I h4 f4 h0
  generalize (S4 ++ [Cel.dct (mergeD [] [(.inr "face", .str face), (.inr "align", .str align)])]).set a (.dct [(.inr "size", .int (1 + x1)), (.inr "lead", .int (1 + x2)), (.inr "face", .str face), (.inr "align", .str align)]) = S5 at I2
  clear g3 g4 f3 f4 h3 h4 t3 t4 I
  -- least
  obtain ⟨x5, c5, t5, _, _, h5⟩ := take_ok n (many := 4) I2.pool (by decide) (by decide) (by decide)
  have f5 : Fr S5 (S5.set p c5) p := Fr.set _ _ _
  generalize S5.set p c5 = S6 at t5 h5 f5
  have la : a < S6.length := st_lt (f5.get I2.ha I2.pa)
  refine w_ex (e_mth (e_var rfl) (my_update I2.ha) (es_cons (e_dct (ep_cons e_cst (e_bin e_cst (e_call (es_cons (e_var rfl) (es_cons e_cst es_nil)) t5) rfl) ep_nil rfl)) es_nil)
    (mt_upd (st_old (f5.get I2.ha I2.pa)) st_0 (Nat.ne_of_lt la) (by exact Nat.le_of_ble_eq_true rfl))) ?_
  rw [show ∀ x y z u v : Dv, mergeD [(.inr "size", x), (.inr "lead", y), (.inr "face", z), (.inr "align", u)] (mergeD [] [(.inr "least", v)]) = [(.inr "size", x), (.inr "lead", y), (.inr "face", z), (.inr "align", u), (.inr "least", v)] from fun _ _ _ _ _ => rfl]
  have I3 := vi_next (c := .dct (mergeD [] [(.inr "least", .int (1 + x5))])) (more := [(.inr "size", .int (1 + x1)), (.inr "lead", .int (1 + x2)), (.inr "face", .str face), (.inr "align", .str align), (.inr "least", .int (1 + x5))]) I2 h5 f5 h0
  generalize (S6 ++ [Cel.dct (mergeD [] [(.inr "least", .int (1 + x5))])]).set a (.dct [(.inr "size", .int (1 + x1)), (.inr "lead", .int (1 + x2)), (.inr "face", .str face), (.inr "align", .str align), (.inr "least", .int (1 + x5))]) = S7 at I3
  clear f5 h5 t5 I2
  -- place
  obtain ⟨x6, c6, t6, x6a, x6b, h6⟩ := take_ok n (many := 5) (pool_app I3.pool [.lst [.str "block", .str "line", .str "none", .str "note", .str "float"]]) (by decide) (by decide) (by decide)
  have g6 : ((S7 ++ [Cel.lst [.str "block", .str "line", .str "none", .str "note", .str "float"]]).set p c6)[S7.length]? = some (.lst [.str "block", .str "line", .str "none", .str "note", .str "float"]) := by
    rw [List.getElem?_set_ne (by have := pool_lt I3.pool; omega)]
    exact st_0
  have p6 : ∃ y : Str, L2.atI [Dv.str "block", .str "line", .str "none", .str "note", .str "float"] x6 = some (.str y) := by
    have : x6 = 0 ∨ x6 = 1 ∨ x6 = 2 ∨ x6 = 3 ∨ x6 = 4 := by omega
    rcases this with rfl | rfl | rfl | rfl | rfl
    · exact ⟨_, rfl⟩
    · exact ⟨_, rfl⟩
    · exact ⟨_, rfl⟩
    · exact ⟨_, rfl⟩
    · exact ⟨_, rfl⟩
  obtain ⟨place, p6⟩ := p6
  have f6 : Fr S7 ((S7 ++ [Cel.lst [.str "block", .str "line", .str "none", .str "note", .str "float"]]).set p c6) p := (Fr.app _ _ _).trans (Fr.set _ _ _)
  generalize (S7 ++ [Cel.lst [.str "block", .str "line", .str "none", .str "note", .str "float"]]).set p c6 = S8 at t6 h6 g6 f6
  have la : a < S8.length := st_lt (f6.get I3.ha I3.pa)
  refine w_ex (e_mth (e_var rfl) (my_update I3.ha) (es_cons (e_dct (ep_cons e_cst (e_ix (e_lst (es_cons e_cst (es_cons e_cst (es_cons e_cst (es_cons e_cst (es_cons e_cst es_nil)))))) (e_call (es_cons (e_var rfl) (es_cons e_cst es_nil)) t6) (ix_lst g6 p6)) ep_nil rfl)) es_nil)
    (mt_upd (st_old (f6.get I3.ha I3.pa)) st_0 (Nat.ne_of_lt la) (by exact Nat.le_of_ble_eq_true rfl))) ?_
  rw [show ∀ x y z u v w : Dv, mergeD [(.inr "size", x), (.inr "lead", y), (.inr "face", z), (.inr "align", u), (.inr "least", v)] (mergeD [] [(.inr "place", w)]) = [(.inr "size", x), (.inr "lead", y), (.inr "face", z), (.inr "align", u), (.inr "least", v), (.inr "place", w)] from fun _ _ _ _ _ _ => rfl]
  have I4 := vi_next (c := .dct (mergeD [] [(.inr "place", .str place)])) (more := [(.inr "size", .int (1 + x1)), (.inr "lead", .int (1 + x2)), (.inr "face", .str face), (.inr "align", .str align), (.inr "least", .int (1 + x5)), (.inr "place", .str place)]) I3 h6 f6 h0
  generalize (S8 ++ [Cel.dct (mergeD [] [(.inr "place", .str place)])]).set a (.dct [(.inr "size", .int (1 + x1)), (.inr "lead", .int (1 + x2)), (.inr "face", .str face), (.inr "align", .str align), (.inr "least", .int (1 + x5)), (.inr "place", .str place)]) = S9 at I4
  clear f6 h6 t6 g6 I3
  -- keep, indent
  obtain ⟨x7, c7, t7, x7a, x7b, h7⟩ := take_ok n (many := 2) (pool_app I4.pool [.lst [.str "yes", .str "no"]]) (by decide) (by decide) (by decide)
  have g7 : ((S9 ++ [Cel.lst [.str "yes", .str "no"]]).set p c7)[S9.length]? = some (.lst [.str "yes", .str "no"]) := by
    rw [List.getElem?_set_ne (by have := pool_lt I4.pool; omega)]
    exact st_0
  have p7 : ∃ y : Str, L2.atI [Dv.str "yes", .str "no"] x7 = some (.str y) := by
    have : x7 = 0 ∨ x7 = 1 := by omega
    rcases this with rfl | rfl
    · exact ⟨_, rfl⟩
    · exact ⟨_, rfl⟩
  obtain ⟨keep, p7⟩ := p7
  have f7 : Fr S9 ((S9 ++ [Cel.lst [.str "yes", .str "no"]]).set p c7) p := (Fr.app _ _ _).trans (Fr.set _ _ _)
  generalize (S9 ++ [Cel.lst [.str "yes", .str "no"]]).set p c7 = S10 at t7 h7 g7 f7
  obtain ⟨x8, c8, t8, x8a, x8b, h8⟩ := take_ok n (many := 100) h7 (by decide) (by decide) (by decide)
  have f8 : Fr S9 (S10.set p c8) p := f7.trans (Fr.set _ _ _)
  generalize S10.set p c8 = S11 at t8 h8 f8
  have la : a < S11.length := st_lt (f8.get I4.ha I4.pa)
  refine w_ex (e_mth (e_var rfl) (my_update I4.ha) (es_cons (e_dct (ep_cons e_cst (e_ix (e_lst (es_cons e_cst (es_cons e_cst es_nil))) (e_call (es_cons (e_var rfl) (es_cons e_cst es_nil)) t7) (ix_lst g7 p7)) (ep_cons e_cst (e_call (es_cons (e_var rfl) (es_cons e_cst es_nil)) t8) ep_nil rfl) rfl)) es_nil)
    (mt_upd (st_old (f8.get I4.ha I4.pa)) st_0 (Nat.ne_of_lt la) (by exact Nat.le_of_ble_eq_true rfl))) ?_
  rw [show ∀ x y z u v w q r : Dv, mergeD [(.inr "size", x), (.inr "lead", y), (.inr "face", z), (.inr "align", u), (.inr "least", v), (.inr "place", w)] (mergeD [] [(.inr "keep", q), (.inr "indent", r)]) = [(.inr "size", x), (.inr "lead", y), (.inr "face", z), (.inr "align", u), (.inr "least", v), (.inr "place", w), (.inr "keep", q), (.inr "indent", r)] from fun _ _ _ _ _ _ _ _ => rfl]
  have I5 := vi_next (c := .dct (mergeD [] [(.inr "keep", .str keep), (.inr "indent", .int x8)])) (more := [(.inr "size", .int (1 + x1)), (.inr "lead", .int (1 + x2)), (.inr "face", .str face), (.inr "align", .str align), (.inr "least", .int (1 + x5)), (.inr "place", .str place), (.inr "keep", .str keep), (.inr "indent", .int x8)]) I4 h8 f8 h0
  generalize (S11 ++ [Cel.dct (mergeD [] [(.inr "keep", .str keep), (.inr "indent", .int x8)])]).set a (.dct [(.inr "size", .int (1 + x1)), (.inr "lead", .int (1 + x2)), (.inr "face", .str face), (.inr "align", .str align), (.inr "least", .int (1 + x5)), (.inr "place", .str place), (.inr "keep", .str keep), (.inr "indent", .int x8)]) = S12 at I5
  clear f7 h7 t7 g7 f8 h8 t8 I4
  -- above, below
  obtain ⟨x9, c9, t9, x9a, x9b, h9⟩ := take_ok n (many := 100) I5.pool (by decide) (by decide) (by decide)
  have f9 : Fr S12 (S12.set p c9) p := Fr.set _ _ _
  generalize S12.set p c9 = S13 at t9 h9 f9
  obtain ⟨x10, c10, t10, x10a, x10b, h10⟩ := take_ok n (many := 100) h9 (by decide) (by decide) (by decide)
  have f10 : Fr S12 (S13.set p c10) p := f9.trans (Fr.set _ _ _)
  generalize S13.set p c10 = S14 at t10 h10 f10
  have la : a < S14.length := st_lt (f10.get I5.ha I5.pa)
  refine w_ex (e_mth (e_var rfl) (my_update I5.ha) (es_cons (e_dct (ep_cons e_cst (e_call (es_cons (e_var rfl) (es_cons e_cst es_nil)) t9) (ep_cons e_cst (e_call (es_cons (e_var rfl) (es_cons e_cst es_nil)) t10) ep_nil rfl) rfl)) es_nil)
    (mt_upd (st_old (f10.get I5.ha I5.pa)) st_0 (Nat.ne_of_lt la) (by exact Nat.le_of_ble_eq_true rfl))) ?_
  have I6 := vi_next (c := .dct (mergeD [] [(.inr "above", .int x9), (.inr "below", .int x10)])) (more := vaK ⟨1 + x1, 1 + x2, face, align, 1 + x5, place, keep, x8, x9, x10⟩) I5 h10 f10 h0
  refine w_ret (e_var rfl) ⟨_, _, rfl, a, ⟨1 + x1, 1 + x2, face, align, 1 + x5, place, keep, x8, x9, x10⟩, rfl, I6.ha, I6.fr⟩
end K74

set_option Elab.async false
set_option linter.all false
set_option maxRecDepth 100000
set_option maxHeartbeats 4000000
/-! K74H: what the defs do, two. -/
namespace K74
open PySem Vm

/-! ### plain data is the same as itself -/
inductive Pl : Nat → Dv → Prop
  | int (n : Nat) (i : Int) : Pl n (.int i)
  | str (n : Nat) (x : Str) : Pl n (.str x)
  | tup {n : Nat} {xs : List Dv} (h : ∀ x ∈ xs, Pl n x) (hl : xs.length ≤ LIM) : Pl (n + 1) (.tup xs)
theorem Pl.up {n : Nat} {d : Dv} (h : Pl n d) : Pl (n + 1) d := by
  induction h with
  | int n i => exact .int _ _
  | str n i => exact .str _ _
  | tup h hl ih => exact .tup (fun x hx => ih x hx) hl
theorem same_ret {n : Nat} {d e : Dv} {S : Sto} (h : ∃ v S', run tb G (n + 1) 9 [d, e] S = .ok v S' ∧ v = .bl true ∧ S' = S) : run tb G (n + 1) 9 [d, e] S = .ok (.bl true) S := by
  obtain ⟨v, S', h, rfl, rfl⟩ := h
  exact h
theorem isin {cl : Nat → List Dv → Sto → Res Dv} {ρ : Envr} {S : Sto} {i : Nat} {d : Dv} {t u : String} {b : Bool} (h : ρ[i]? = some (some d)) (ht : tyn S d = some t) (hb : L2.kitB t u = some b) : ev cl G (.blt .isinstance (.cons (.var i) (.cons (.bty u) .nil))) ρ S = .ok (.bl b) S := by
  refine e_blt (es_cons (e_var h) (es_cons e_bty es_nil)) ?_
  unfold bltop
  simp only [ht, hb]
theorem same_tup {m : Nat} {xs : List Dv} (hl : xs.length ≤ LIM) (ih : ∀ x ∈ xs, ∀ S : Sto, run tb G m 9 [x, x] S = .ok (.bl true) S) (S : Sto) : run tb G (m + 1) 9 [.tup xs, .tup xs] S = .ok (.bl true) S := by
  refine same_ret (r_w (fn := ⟨2, 4, c_law_same⟩) rfl rfl ?_)
  show wO (exB _ _ c_law_same [some (.tup xs), some (.tup xs), none, none] S) _
  unfold c_law_same
  refine w_skip (t_bo (tb_or_f (t_tr (isin rfl rfl rfl) rfl) (tb_one (t_tr (isin rfl rfl rfl) rfl)))) ?_
  refine w_skip (t_bo (tb_and_f (t_tr (isin rfl rfl rfl) rfl))) ?_
  refine w_skip (t_bo (tb_and_f (t_tr (isin rfl rfl rfl) rfl))) ?_
  refine w_asg (e_bo (eb_and_t (isin rfl rfl rfl) (eb_one (isin (b := true) rfl rfl rfl)))) a_nm ?_
  refine w_ite (t_bo (tb_or_t (t_tr (e_var rfl) rfl))) (fun _ => ?_) (fun z => nomatch z)
  refine w_skip (S1 := S) (t_cmp (e_blt (es_cons (e_var rfl) es_nil) bl_len_t) (e_blt (es_cons (e_var rfl) es_nil) bl_len_t) (by
    rw [show cmpop .NotEq (.int (xs.length : Int)) (.int (xs.length : Int)) S = .ok (.bl (!decide ((xs.length : Int) = xs.length))) S from rfl, decide_eq_true rfl]
    rfl)) ?_
  have hl2 : (xs.length : Int) ≤ 16777216 := by have : xs.length ≤ 16777216 := hl; omega
  show wO (exB _ _ _ [some (.tup xs), some (.tup xs), some (.bl true), none] S) _
  refine w_for (fun i ρ S' => ∃ o, ρ = [some (.tup xs), some (.tup xs), some (.bl true), o] ∧ S' = S) (i_rng (es_cons (e_blt (es_cons (e_var rfl) es_nil) bl_len_t) es_nil) (rg_1 ⟨by omega, by omega⟩)) ⟨none, rfl, rfl⟩ (fun _ _ _ _ _ => trivial) (fun i x ρ S' hx hI => ?_) (fun ρ S' hI => ?_)
  · obtain ⟨o, rfl, rfl⟩ := hI
    obtain ⟨rfl, hi⟩ := rangeL_at hx
    have hi2 : i < xs.length := by omega
    have hx2 : L2.atI xs ((0 : Int) + (i : Int)) = some xs[i] := by rw [Int.zero_add]; exact L2.atI_nat (List.getElem?_eq_getElem hi2)
    refine ⟨_, _, a_nm, ?_⟩
    refine w_skip (t_nt (t_tr (e_call (es_cons (e_ix (e_var rfl) (e_var rfl) (ix_tup hx2)) (es_cons (e_ix (e_var rfl) (e_var rfl) (ix_tup hx2)) es_nil)) (ih _ (List.getElem_mem hi2) S')) rfl)) (w_nil (w_go ⟨_, rfl, rfl⟩))
  · obtain ⟨o, rfl, rfl⟩ := hI
    exact w_ret e_cst ⟨_, _, rfl, rfl, rfl⟩
theorem same_pl : ∀ {k : Nat} {d : Dv}, Pl k d → ∀ (n : Nat) (S : Sto), run tb G (n + k + 1) 9 [d, d] S = .ok (.bl true) S := by
  intro k d h
  induction h with
  | int k i =>
    intro n S
    refine same_ret (r_w (fn := ⟨2, 4, c_law_same⟩) rfl rfl ?_)
    show wO (exB _ _ c_law_same [some (.int i), some (.int i), none, none] S) _
    unfold c_law_same
    refine w_skip (t_bo (tb_or_f (t_tr (isin rfl rfl rfl) rfl) (tb_one (t_tr (isin rfl rfl rfl) rfl)))) ?_
    refine w_ite (t_bo (tb_and_t (t_tr (isin rfl rfl rfl) rfl) (tb_one (t_tr (isin rfl rfl rfl) rfl)))) (fun _ => ?_) (fun z => nomatch z)
    refine w_ret (e_cmp (e_var rfl) (e_var rfl) rfl) ⟨_, _, rfl, ?_, rfl⟩
    rw [decide_eq_true rfl]
  | str k i =>
    intro n S
    refine same_ret (r_w (fn := ⟨2, 4, c_law_same⟩) rfl rfl ?_)
    show wO (exB _ _ c_law_same [some (.str i), some (.str i), none, none] S) _
    unfold c_law_same
    refine w_skip (t_bo (tb_or_f (t_tr (isin rfl rfl rfl) rfl) (tb_one (t_tr (isin rfl rfl rfl) rfl)))) ?_
    refine w_skip (t_bo (tb_and_f (t_tr (isin rfl rfl rfl) rfl))) ?_
    refine w_ite (t_bo (tb_and_t (t_tr (isin rfl rfl rfl) rfl) (tb_one (t_tr (isin rfl rfl rfl) rfl)))) (fun _ => ?_) (fun z => nomatch z)
    refine w_ret (e_cmp (e_var rfl) (e_var rfl) rfl) ⟨_, _, rfl, ?_, rfl⟩
    rw [decide_eq_true rfl]
  | @tup k xs h hl ih =>
    intro n S
    exact same_tup hl (fun x hx S => ih x hx n S) S
theorem same_lst {k : Nat} {xs : List Dv} {a b : Nat} {S : Sto} (ha : S[a]? = some (.lst xs)) (hb : S[b]? = some (.lst xs)) (h : ∀ x ∈ xs, Pl k x) (hl : xs.length ≤ LIM) (n : Nat) : run tb G (n + k + 1 + 1) 9 [.ref a, .ref b] S = .ok (.bl true) S := by
  have ta : tyn S (.ref a) = some "list" := by unfold tyn; simp only [ha]
  have tb' : tyn S (.ref b) = some "list" := by unfold tyn; simp only [hb]
  refine same_ret (r_w (fn := ⟨2, 4, c_law_same⟩) rfl rfl ?_)
  show wO (exB _ _ c_law_same [some (.ref a), some (.ref b), none, none] S) _
  unfold c_law_same
  refine w_skip (t_bo (tb_or_f (t_tr (isin rfl ta rfl) rfl) (tb_one (t_tr (isin rfl tb' rfl) rfl)))) ?_
  refine w_skip (t_bo (tb_and_f (t_tr (isin rfl ta rfl) rfl))) ?_
  refine w_skip (t_bo (tb_and_f (t_tr (isin rfl ta rfl) rfl))) ?_
  refine w_asg (e_bo (eb_and_f (isin rfl ta rfl))) a_nm ?_
  refine w_ite (t_bo (tb_or_f (t_tr (e_var rfl) rfl) (tb_one (t_bo (tb_and_t (t_tr (isin rfl ta rfl) rfl) (tb_one (t_tr (isin rfl tb' rfl) rfl))))))) (fun _ => ?_) (fun z => nomatch z)
  refine w_skip (S1 := S) (t_cmp (e_blt (es_cons (e_var rfl) es_nil) (bl_len_l ha)) (e_blt (es_cons (e_var rfl) es_nil) (bl_len_l hb)) (by
    rw [show cmpop .NotEq (.int (xs.length : Int)) (.int (xs.length : Int)) S = .ok (.bl (!decide ((xs.length : Int) = xs.length))) S from rfl, decide_eq_true rfl]
    rfl)) ?_
  have hl2 : (xs.length : Int) ≤ 16777216 := by have : xs.length ≤ 16777216 := hl; omega
  refine w_for (fun i ρ S' => ∃ o, ρ = [some (.ref a), some (.ref b), some (.bl false), o] ∧ S' = S) (i_rng (es_cons (e_blt (es_cons (e_var rfl) es_nil) (bl_len_l ha)) es_nil) (rg_1 ⟨by omega, by omega⟩)) ⟨none, rfl, rfl⟩ (fun _ _ _ _ _ => trivial) (fun i x ρ S' hx hI => ?_) (fun ρ S' hI => ?_)
  · obtain ⟨o, rfl, rfl⟩ := hI
    obtain ⟨rfl, hi⟩ := rangeL_at hx
    have hi2 : i < xs.length := by omega
    have hx2 : L2.atI xs ((0 : Int) + (i : Int)) = some xs[i] := by rw [Int.zero_add]; exact L2.atI_nat (List.getElem?_eq_getElem hi2)
    refine ⟨_, _, a_nm, ?_⟩
    refine w_skip (t_nt (t_tr (e_call (es_cons (e_ix (e_var rfl) (e_var rfl) (ix_lst ha hx2)) (es_cons (e_ix (e_var rfl) (e_var rfl) (ix_lst hb hx2)) es_nil)) (same_pl (h _ (List.getElem_mem hi2)) n S')) rfl)) (w_nil (w_go ⟨_, rfl, rfl⟩))
  · obtain ⟨o, rfl, rfl⟩ := hI
    exact w_ret e_cst ⟨_, _, rfl, rfl, rfl⟩

/-! ### numbers in words -/
def sI (i : Int) : Str := Str.ofString (toString i)
theorem sI_len {i : Int} (h0 : 0 ≤ i) (h : i < 10 ^ 10) : (sI i).length ≤ 10 := PySem.W.KT.len_num h0 h
theorem lg_ok {i : Int} (h0 : 0 ≤ i) (h : i < 10 ^ 10) : i.natAbs.log2 < 1920 := by
  by_cases hz : i.natAbs = 0
  · rw [hz]; decide
  · have : i.natAbs.log2 < 34 := (Nat.log2_lt hz).mpr (by omega)
    omega
def wr (r : Int × Int) : Str := if r.1 = r.2 then sI r.1 else sI r.1 ++ "-" ++ sI r.2
def RgOk (r : Int × Int) : Prop := 1 ≤ r.1 ∧ r.1 ≤ 9999 ∧ 1 ≤ r.2 ∧ r.2 ≤ 9999
theorem wr_len {r : Int × Int} (h : RgOk r) : (wr r).length ≤ 21 := by
  obtain ⟨h1, h2, h3, h4⟩ := h
  have l1 := sI_len (i := r.1) (by omega) (by omega)
  have l2 := sI_len (i := r.2) (by omega) (by omega)
  unfold wr
  split
  · omega
  · rw [Str.length_append, Str.length_append, show ("-" : Str).length = 1 by decide]
    omega
theorem write_range_ok (n : Nat) {r : Int × Int} (h : RgOk r) (S : Sto) : run tb G (n + 1) 1 [.int r.1, .int r.2] S = .ok (.str (wr r)) S := by
  obtain ⟨h1, h2, h3, h4⟩ := h
  have l1 := sI_len (i := r.1) (by omega) (by omega)
  have l2 := sI_len (i := r.2) (by omega) (by omega)
  have s1 : bltop .str [.int r.1] S = .ok (.str (sI r.1)) S := bl_str (lg_ok (by omega) (by omega))
  have s2 : bltop .str [.int r.2] S = .ok (.str (sI r.2)) S := bl_str (lg_ok (by omega) (by omega))
  have key : ∃ v S', run tb G (n + 1) 1 [.int r.1, .int r.2] S = .ok v S' ∧ v = .str (wr r) ∧ S' = S := by
    refine r_w (fn := ⟨2, 2, c_write_range⟩) rfl rfl ?_
    show wO (exB _ _ c_write_range [some (.int r.1), some (.int r.2)] S) _
    unfold c_write_range
    refine w_ite (t_cmp (e_var rfl) (e_var rfl) rfl) (fun e => ?_) (fun e => w_nil ?_)
    · have e := of_decide_eq_true e
      refine w_ret (e_blt (es_cons (e_var rfl) es_nil) s1) ⟨_, _, rfl, ?_, rfl⟩
      unfold wr
      rw [if_pos e]
    · have e := of_decide_eq_false e
      have hd : ("-" : Str).length = 1 := by decide
      refine w_ret (e_bin (e_bin (e_blt (es_cons (e_var rfl) es_nil) s1) e_cst (bi_cat ?_)) (e_blt (es_cons (e_var rfl) es_nil) s2) (bi_cat ?_)) ⟨_, _, rfl, ?_, rfl⟩
      · rw [hd]
        show _ ≤ 16777216
        omega
      · rw [Str.length_append, hd]
        show _ ≤ 16777216
        omega
      · unfold wr
        rw [if_neg e]
  obtain ⟨v, S', e, rfl, rfl⟩ := key
  exact e
/-! ### ranges -/
def addR (acc : List (Int × Int)) (n : Int) : List (Int × Int) := match acc.getLast? with
  | some r => if n ≤ r.2 + 1 then acc.dropLast ++ [(r.1, n)] else acc ++ [(n, n)]
  | none => acc ++ [(n, n)]
def rgs (ns : List Int) : List (Int × Int) := ns.foldl addR []
def rD (r : Int × Int) : Dv := .tup [.int r.1, .int r.2]
theorem rgs_snoc (ns : List Int) (n : Int) : rgs (ns ++ [n]) = addR (rgs ns) n := by unfold rgs; rw [List.foldl_append]; rfl
theorem rgs_len : ∀ (l : List Int), (rgs l).length ≤ l.length := by
  intro l
  have key : ∀ (l : List Int) (acc : List (Int × Int)), (l.foldl addR acc).length ≤ acc.length + l.length := by
    intro l
    induction l with
    | nil => intro acc; simp
    | cons x r ih =>
      intro acc
      rw [List.foldl_cons]
      refine Nat.le_trans (ih _) ?_
      have : (addR acc x).length ≤ acc.length + 1 := by
        unfold addR
        split
        · split
          · first
              | (simp; done)
              | (simp; omega)
          · simp
        · simp
      rw [List.length_cons]
      omega
  have := key l []
  unfold rgs
  simpa using this
theorem rgs_ok {l : List Int} (h : ∀ n ∈ l, 1 ≤ n ∧ n ≤ 9999) : ∀ r ∈ rgs l, RgOk r := by
  have key : ∀ (l : List Int) (acc : List (Int × Int)), (∀ n ∈ l, 1 ≤ n ∧ n ≤ 9999) → (∀ r ∈ acc, RgOk r) → ∀ r ∈ l.foldl addR acc, RgOk r := by
    intro l
    induction l with
    | nil => intro acc _ ha; exact ha
    | cons x t ih =>
      intro acc hl ha
      refine ih _ (fun n hn => hl n (List.mem_cons_of_mem _ hn)) ?_
      have hx := hl x List.mem_cons_self
      unfold addR
      split
      · rename_i r hr
        have hr2 := ha r (List.mem_of_getLast? hr)
        split
        · intro q hq
          rcases List.mem_append.mp hq with hq | hq
          · exact ha q (List.dropLast_subset _ hq)
          · rw [List.mem_singleton] at hq
            subst hq
            exact ⟨hr2.1, hr2.2.1, hx.1, hx.2⟩
        · intro q hq
          rcases List.mem_append.mp hq with hq | hq
          · exact ha q hq
          · rw [List.mem_singleton] at hq
            subst hq
            exact ⟨hx.1, hx.2, hx.1, hx.2⟩
      · intro q hq
        rcases List.mem_append.mp hq with hq | hq
        · exact ha q hq
        · rw [List.mem_singleton] at hq
          subst hq
          exact ⟨hx.1, hx.2, hx.1, hx.2⟩
  exact key l [] h (fun _ z => nomatch z)
theorem atI_m1 {α : Type} {xs : List α} {v : α} (h : xs.getLast? = some v) : L2.atI xs (-1) = some v := by
  obtain ⟨ys, rfl⟩ := List.getLast?_eq_some_iff.mp h
  exact L2.atI_last ys v
theorem ranges_ok (n : Nat) {S : Sto} {m : Nat} {ns : List Int} (h : S[m]? = some (.lst (ns.map .int))) (hl : ns.length ≤ 10000) :
    ∃ d S', run tb G (n + 1) 0 [.ref m] S = .ok d S' ∧ d = .tup ((rgs (sortI ns)).map rD) ∧ ∃ l, S' = S ++ l := by
  have hsl : (sortI ns).length = ns.length := by unfold sortI; exact List.length_mergeSort ns
  refine r_w (fn := ⟨1, 3, c_ranges_of⟩) rfl rfl ?_
  show wO (exB _ _ c_ranges_of [some (.ref m), none, none] S) _
  unfold c_ranges_of
  refine w_asg (e_lst es_nil) a_nm ?_
  have e2 : S ++ [Cel.lst []] ++ [Cel.lst (ns.map .int)] = S ++ [.lst [], .lst (ns.map .int)] := by simp
  have l2 : (S ++ [Cel.lst []]).length = S.length + 1 := by simp
  have e3 : ev (run tb G n) G (.blt .sorted (.cons (.blt .list (.cons (.var 0) .nil)) .nil)) [some (.ref m), some (.ref S.length), none] (S ++ [Cel.lst []]) = .ok (.ref (S.length + 2)) (S ++ [.lst [], .lst (ns.map .int), .lst ((sortI ns).map .int)]) := by
    refine e_blt (es_cons (e_blt (es_cons (e_var rfl) es_nil) (bl_list (xs := ns.map .int) (by unfold seqv; simp only [st_old (l := [Cel.lst []]) h]))) es_nil) ?_
    rw [e2, l2, bl_sortedI st_1]
    simp
  refine w_for (fun i ρ S' => ∃ o, ρ = [some (.ref m), some (.ref S.length), o] ∧ S' = S ++ [.lst ((rgs ((sortI ns).take i)).map rD), .lst (ns.map .int), .lst ((sortI ns).map .int)]) (i_e e3 (wk_lst st_2)) ⟨none, rfl, rfl⟩ (fun i ρ S' _ hI => ?_) (fun i x ρ S' hx hI => ?_) (fun ρ S' hI => ?_)
  · obtain ⟨o, _, rfl⟩ := hI
    exact st_2
  · obtain ⟨o, rfl, rfl⟩ := hI
    rw [List.getElem?_map] at hx
    cases hq : (sortI ns)[i]? with
    | none => rw [hq] at hx; cases hx
    | some v =>
      rw [hq] at hx
      cases hx
      refine ⟨_, _, a_nm, ?_⟩
      have hnext : rgs ((sortI ns).take (i + 1)) = addR (rgs ((sortI ns).take i)) v := by rw [List.take_add_one, hq]; exact rgs_snoc _ _
      rw [hnext]
      have hlen : (rgs ((sortI ns).take i)).length ≤ 10000 := by
        have := rgs_len ((sortI ns).take i)
        rw [List.length_take] at this
        omega
      generalize rgs ((sortI ns).take i) = R at hlen
      show wO (exB _ _ _ [some (.ref m), some (.ref S.length), some (.int v)] _) _
      cases hR : R.getLast? with
      | none =>
        have hR0 : R = [] := List.getLast?_eq_none_iff.mp hR
        subst hR0
        refine w_ite (t_bo (tb_and_f (t_tr (e_var rfl) (by unfold truth; simp only [st_0]; rfl)))) (fun z => nomatch z) (fun _ => ?_)
        refine w_ex (e_mth (e_var rfl) (my_append st_0) (es_cons (e_tup (es_cons (e_var rfl) (es_cons (e_var rfl) es_nil))) es_nil) (mt_append st_0 (by exact Nat.le_of_ble_eq_true rfl))) (w_nil (w_nil (w_go ⟨_, rfl, ?_⟩)))
        rw [set_0]
        rfl
      | some r =>
        have hlast : (R.map rD).getLast? = some (rD r) := by rw [List.getLast?_map, hR]; rfl
        have hne : R ≠ [] := fun z => by rw [z] at hR; cases hR
        have htr : truth (S ++ [.lst (R.map rD), .lst (ns.map .int), .lst ((sortI ns).map .int)]) (.ref S.length) = some true := by
          unfold truth
          simp only [st_0]
          rw [List.isEmpty_map]
          cases R with
          | nil => exact absurd rfl hne
          | cons _ _ => rfl
        refine w_ite (t_bo (tb_and_t (t_tr (e_var rfl) htr) (tb_one (t_cmp (e_var rfl) (e_bin (e_ix (e_ix (e_var rfl) (e_neg e_cst) (ix_lst st_0 (atI_m1 hlast))) e_cst (ix_tup rfl)) e_cst rfl) rfl)))) (fun e => ?_) (fun e => ?_)
        · have e := of_decide_eq_true e
          have hix : L2.ixN (R.map rD).length (-1) = some (R.length - 1) := by
            unfold L2.ixN
            rw [List.length_map, if_neg (by decide)]
            have : 0 < R.length := List.length_pos_iff.mpr hne
            rw [if_pos (by omega)]
            congr 1
            omega
          refine w_asg (e_tup (es_cons (e_ix (e_ix (e_var rfl) (e_neg e_cst) (ix_lst st_0 (atI_m1 hlast))) e_cst (ix_tup rfl)) (es_cons (e_var rfl) es_nil))) (a_ix (e_var rfl) (e_neg e_cst) (st_set_l st_0 hix)) (w_nil (w_nil (w_go ⟨_, rfl, ?_⟩)))
          rw [set_0]
          congr 2
          unfold addR
          rw [hR]
          simp only [if_pos e, List.map_append]
          obtain ⟨ys, rfl⟩ := List.getLast?_eq_some_iff.mp hR
          simp [rD]
        · have e := of_decide_eq_false e
          refine w_ex (e_mth (e_var rfl) (my_append st_0) (es_cons (e_tup (es_cons (e_var rfl) (es_cons (e_var rfl) es_nil))) es_nil) (mt_append st_0 ?_)) (w_nil (w_nil (w_go ⟨_, rfl, ?_⟩)))
          · rw [List.length_map]
            show _ < 16777216
            omega
          · rw [set_0]
            congr 2
            unfold addR
            rw [hR]
            simp only [if_neg e, List.map_append]
            rfl
  · obtain ⟨o, rfl, rfl⟩ := hI
    rw [List.length_map, List.take_length]
    exact w_ret (e_blt (es_cons (e_var rfl) es_nil) (bl_tuple (by unfold seqv; simp only [st_0]))) ⟨_, _, rfl, rfl, _, rfl⟩
end K74

set_option Elab.async false
set_option linter.all false
set_option maxRecDepth 100000
set_option maxHeartbeats 4000000
/-! K74I: what the defs do, three. -/
namespace K74
open PySem Vm

/-! ### texts joined -/
theorem join_le (sep : Str) {B : Nat} : ∀ {ss : List Str}, (∀ s ∈ ss, s.length ≤ B) → (Str.join sep ss).length ≤ ss.length * (B + sep.length)
  | [], _ => Nat.zero_le _
  | [x], h => by
    have := h x List.mem_cons_self
    show x.length ≤ 1 * (B + sep.length)
    omega
  | x :: y :: r, h => by
    have h1 := h x List.mem_cons_self
    have h2 := join_le sep (ss := y :: r) fun s hs => h s (List.mem_cons_of_mem _ hs)
    show (x ++ sep ++ Str.join sep (y :: r)).length ≤ _
    rw [Str.length_append, Str.length_append, List.length_cons, Nat.add_mul]
    omega
theorem tjoin_le (sep : Str) {B : Nat} {ss : List Str} (h : ∀ s ∈ ss, s.length ≤ B) : (Txt.join sep ss).length ≤ ss.length * (B + sep.length) := by
  show (Builtin.Str.glued sep ss).length ≤ _
  rw [StrLaws.glued_eq_join]
  exact join_le sep h
theorem sum_le {B : Nat} : ∀ {ss : List Str}, (∀ s ∈ ss, s.length ≤ B) → (ss.map (·.length)).sum ≤ ss.length * B
  | [], _ => Nat.zero_le _
  | x :: r, h => by
    have h1 := h x List.mem_cons_self
    have h2 := sum_le (ss := r) fun s hs => h s (List.mem_cons_of_mem _ hs)
    rw [List.map_cons, List.sum_cons, List.length_cons, Nat.add_mul]
    omega
def wrs (R : List (Int × Int)) : Str := Txt.join ", " (R.map wr)
theorem comma_len : (", " : Str).length = 2 := by decide
theorem wrs_len {R : List (Int × Int)} (h : ∀ r ∈ R, RgOk r) : (wrs R).length ≤ R.length * 23 := by
  unfold wrs
  have := tjoin_le ", " (B := 21) (ss := R.map wr) (fun s hs => by
    obtain ⟨r, hr, rfl⟩ := List.mem_map.mp hs
    exact wr_len (h r hr))
  rw [List.length_map, comma_len] at this
  omega
def wrF (d : Dv) : Dv := match d with
  | .tup [.int a, .int b] => .str (wr (a, b))
  | _ => .non
theorem write_ranges_ok (n : Nat) {R : List (Int × Int)} (h : ∀ r ∈ R, RgOk r) (hl : R.length ≤ 10000) (S : Sto) : ∃ d S', run tb G (n + 2) 2 [.tup (R.map rD)] S = .ok d S' ∧ d = .str (wrs R) ∧ Fx S S' := by
  refine r_w (fn := ⟨1, 3, c_write_ranges⟩) rfl rfl ?_
  show wO (exB _ _ c_write_ranges [some (.tup (R.map rD)), none, none] S) _
  unfold c_write_ranges
  have hm : (R.map rD).map wrF = (R.map wr).map .str := by
    rw [List.map_map, List.map_map]
    rfl
  have e1 := e_lc_map (cl := run tb G (n + 1)) (gv := G) (own := [("first", 1), ("last", 2)]) (g := .tup (.cons (.nm 1) (.cons (.nm 2) .nil))) (it := .e (.var 0)) (e := .call 1 (.cons (.var 1) (.cons (.var 2) .nil)))
    (ρ := [some (.tup (R.map rD)), none, none]) (S := S) wrF (i_e (e_var rfl) rfl) trivial (by rw [List.length_map]; show _ ≤ 16777216; omega) (fun x hx => by
      obtain ⟨r, hr, rfl⟩ := List.mem_map.mp hx
      exact ⟨_, a_tup rfl (as_cons a_nm (as_cons a_nm as_nil)), e_call (es_cons (e_var rfl) (es_cons (e_var rfl) es_nil)) (write_range_ok n (h r hr) S)⟩)
  rw [hm] at e1
  refine w_ret (e_mth e_cst rfl (es_cons e1 es_nil) (mt_join st_0 ?_)) ⟨_, _, rfl, rfl, Fx.app _ _⟩
  have := sum_le (B := 21) (ss := R.map wr) (fun s hs => by
    obtain ⟨r, hr, rfl⟩ := List.mem_map.mp hs
    exact wr_len (h r hr))
  rw [List.length_map] at this
  rw [List.length_map, comma_len]
  show _ ≤ 16777216
  omega

/-! ### flows -/
def styleD (v : Va) : Dv := .tup [.str v.align, .int v.indent, .int v.lead, .int v.least, .str v.keep, .int v.above, .int v.below]
def parD (v : Va) (t : Str) : Dv := .tup [.tup [.tup [.str "text", .str t, .int v.size, .str v.face]], styleD v]
def flowD (ts : List Str) (v : Va) : Dv := .tup [.tup (ts.map (parD v)), .tup [], .tup [], .tup [], .tup []]
theorem pl_flow {ts : List Str} (v : Va) (h : ts.length ≤ LIM) : Pl 5 (flowD ts v) := by
  have leaf : ∀ {n}, Pl (n + 1) (.tup []) := .tup (fun _ z => nomatch z) (Nat.zero_le _)
  refine .tup (fun x hx => ?_) (by exact Nat.le_of_ble_eq_true rfl)
  simp only [List.mem_cons, List.not_mem_nil, or_false] at hx
  rcases hx with rfl | rfl | rfl | rfl | rfl
  · refine .tup (fun y hy => ?_) (by rw [List.length_map]; exact h)
    obtain ⟨t, _, rfl⟩ := List.mem_map.mp hy
    refine .tup (fun z hz => ?_) (by exact Nat.le_of_ble_eq_true rfl)
    simp only [List.mem_cons, List.not_mem_nil, or_false] at hz
    rcases hz with rfl | rfl
    · refine .tup (fun z hz => ?_) (by exact Nat.le_of_ble_eq_true rfl)
      rw [List.mem_singleton] at hz
      subst hz
      refine .tup (fun z hz => ?_) (by exact Nat.le_of_ble_eq_true rfl)
      simp only [List.mem_cons, List.not_mem_nil, or_false] at hz
      rcases hz with rfl | rfl | rfl | rfl
      · exact .str _ _
      · exact .str _ _
      · exact .int _ _
      · exact .str _ _
    · refine .tup (fun z hz => ?_) (by exact Nat.le_of_ble_eq_true rfl)
      simp only [List.mem_cons, List.not_mem_nil, or_false] at hz
      rcases hz with rfl | rfl | rfl | rfl | rfl | rfl | rfl
      · exact .str _ _
      · exact .int _ _
      · exact .int _ _
      · exact .int _ _
      · exact .str _ _
      · exact .int _ _
      · exact .int _ _
  · exact leaf
  · exact leaf
  · exact leaf
  · exact leaf
def vaF (v : Va) (d : Dv) : Dv := match keyv d with
  | some k => (getD (vaK v) k).getD .non
  | none => .non
theorem paragraphs_ok (n : Nat) {S : Sto} {t v : Nat} {ts : List Str} {va : Va} (ht : S[t]? = some (.lst (ts.map .str))) (hv : S[v]? = some (.dct (vaK va))) (hl : ts.length ≤ 10000) :
    ∃ d S', run tb G (n + 1) 3 [.ref t, .ref v] S = .ok d S' ∧ d = flowD ts va ∧ Fx S S' := by
  refine r_w (fn := ⟨2, 7, c_paragraphs_flow⟩) rfl rfl ?_
  show wO (exB _ _ c_paragraphs_flow [some (.ref t), some (.ref v), none, none, none, none, none] S) _
  unfold c_paragraphs_flow
  have e1 := e_lc_map (cl := run tb G n) (gv := G) (own := [("name", 6)]) (g := .nm 6) (it := .e (.gl "STYLE")) (e := .ix (.var 1) (.var 6))
    (ρ := [some (.ref t), some (.ref v), none, none, none, none, none]) (S := S) (xs := [.str "align", .str "indent", .str "lead", .str "least", .str "keep", .str "above", .str "below"]) (vaF va) (i_e (e_gl rfl) rfl) trivial (by exact Nat.le_of_ble_eq_true rfl) (fun x hx => by
      simp only [List.mem_cons, List.not_mem_nil, or_false] at hx
      rcases hx with rfl | rfl | rfl | rfl | rfl | rfl | rfl
      · exact ⟨_, a_nm, e_ix (e_var rfl) (e_var rfl) (ix_dct hv rfl rfl)⟩
      · exact ⟨_, a_nm, e_ix (e_var rfl) (e_var rfl) (ix_dct hv rfl rfl)⟩
      · exact ⟨_, a_nm, e_ix (e_var rfl) (e_var rfl) (ix_dct hv rfl rfl)⟩
      · exact ⟨_, a_nm, e_ix (e_var rfl) (e_var rfl) (ix_dct hv rfl rfl)⟩
      · exact ⟨_, a_nm, e_ix (e_var rfl) (e_var rfl) (ix_dct hv rfl rfl)⟩
      · exact ⟨_, a_nm, e_ix (e_var rfl) (e_var rfl) (ix_dct hv rfl rfl)⟩
      · exact ⟨_, a_nm, e_ix (e_var rfl) (e_var rfl) (ix_dct hv rfl rfl)⟩)
  have hm : [Dv.str "align", .str "indent", .str "lead", .str "least", .str "keep", .str "above", .str "below"].map (vaF va) = [.str va.align, .int va.indent, .int va.lead, .int va.least, .str va.keep, .int va.above, .int va.below] := rfl
  rw [hm] at e1
  generalize hL : [Dv.str va.align, .int va.indent, .int va.lead, .int va.least, .str va.keep, .int va.above, .int va.below] = L at e1
  have hs : styleD va = .tup L := by rw [← hL]; rfl
  refine w_asg (e_blt (es_cons e1 es_nil) (bl_tuple (xs := L) (by unfold seqv; simp only [st_0]))) a_nm ?_
  refine w_asg (e_lst es_nil) a_nm ?_
  have e2 : S ++ [Cel.lst L] ++ [Cel.lst []] = S ++ [.lst L, .lst []] := by simp
  have l2 : (S ++ [Cel.lst L]).length = S.length + 1 := by simp
  rw [e2, l2]
  have gt : ∀ l, (S ++ l)[t]? = some (.lst (ts.map .str)) := fun l => st_old ht
  have gv' : ∀ l, (S ++ l)[v]? = some (.dct (vaK va)) := fun l => st_old hv
  have lt := st_lt ht
  refine w_for (fun i ρ S' => ∃ o1 o2, ρ = [some (.ref t), some (.ref v), some (.tup L), some (.ref (S.length + 1)), o1, o2, none] ∧ S' = S ++ [.lst L, .lst ((ts.take i).map (parD va))]) (i_e (e_var rfl) (wk_lst (gt _))) ⟨none, none, rfl, rfl⟩ (fun i ρ S' _ hI => ?_) (fun i x ρ S' hx hI => ?_) (fun ρ S' hI => ?_)
  · obtain ⟨o1, o2, _, rfl⟩ := hI
    exact gt _
  · obtain ⟨o1, o2, rfl, rfl⟩ := hI
    rw [List.getElem?_map] at hx
    cases hq : ts[i]? with
    | none => rw [hq] at hx; cases hx
    | some x =>
      rw [hq] at hx
      cases hx
      refine ⟨_, _, a_nm, ?_⟩
      refine w_asg (e_tup (es_cons (e_tup (es_cons e_cst (es_cons (e_var rfl) (es_cons (e_ix (e_var rfl) e_cst (ix_dct (gv' _) rfl rfl)) (es_cons (e_ix (e_var rfl) e_cst (ix_dct (gv' _) rfl rfl)) es_nil))))) es_nil)) a_nm ?_
      refine w_ex (e_mth (e_var rfl) (my_append st_1) (es_cons (e_tup (es_cons (e_var rfl) (es_cons (e_var rfl) es_nil))) es_nil) (mt_append st_1 ?_)) (w_nil (w_go ⟨_, _, rfl, ?_⟩))
      · rw [List.length_map, List.length_take]
        show _ < 16777216
        omega
      · rw [set_k, List.take_add_one, hq, List.map_append]
        have hp : parD va x = .tup [.tup [.tup [.str "text", .str x, .int va.size, .str va.face]], .tup L] := by
          unfold parD
          rw [hs]
        show _ = S ++ [.lst L, .lst (_ ++ [parD va x])]
        rw [hp]
        rfl
  · obtain ⟨o1, o2, rfl, rfl⟩ := hI
    rw [List.length_map, List.take_length]
    refine w_ret (e_tup (es_cons (e_blt (es_cons (e_var rfl) es_nil) (bl_tuple (xs := ts.map (parD va)) (by unfold seqv; simp only [st_1]))) (es_cons (e_tup es_nil) (es_cons (e_tup es_nil) (es_cons (e_tup es_nil) (es_cons (e_tup es_nil) es_nil)))))) ⟨_, _, rfl, rfl, Fx.app _ _⟩
def txt (e : Ent) : Str := e.1 ++ " " ++ sI e.2
theorem sp_len : (" " : Str).length = 1 := by decide
theorem txt_len {e : Ent} (h : EntOk e) : (e.1 ++ " ").length ≤ 9 ∧ (sI e.2).length ≤ 10 := by
  refine ⟨?_, sI_len (by have := h.2.1; omega) (by have := h.2.2; omega)⟩
  rw [Str.length_append, sp_len]
  have := h.1
  omega
theorem ent_str {e : Ent} (h : EntOk e) (S : Sto) : bltop .str [.int e.2] S = .ok (.str (sI e.2)) S := bl_str (lg_ok (by have := h.2.1; omega) (by have := h.2.2; omega))
def txtF (d : Dv) : Dv := match d with
  | .tup [.str a, .int b] => .str (txt (a, b))
  | _ => .non
theorem txtF_map (es : List Ent) : (es.map entD).map txtF = (es.map txt).map .str := by
  rw [List.map_map, List.map_map]
  rfl
theorem cat1 {e : Ent} (h : EntOk e) (S : Sto) : binop .Add (.str e.1) (.str " ") S = .ok (.str (e.1 ++ " ")) S := bi_cat (by
  rw [sp_len]
  have := h.1
  show _ ≤ 16777216
  omega)
theorem cat2 {e : Ent} (h : EntOk e) (S : Sto) : binop .Add (.str (e.1 ++ " ")) (.str (sI e.2)) S = .ok (.str (txt e)) S := bi_cat (by
  have := txt_len h
  show _ ≤ 16777216
  omega)
theorem contents_ok (n : Nat) {S : Sto} {r v : Nat} {es : List Ent} {va : Va} (hr : S[r]? = some (.lst (es.map entD))) (hv : S[v]? = some (.dct (vaK va))) (hl : es.length ≤ 10000) (he : ∀ e ∈ es, EntOk e) :
    ∃ d S', run tb G (n + 2) 4 [.ref r, .ref v] S = .ok d S' ∧ d = flowD (es.map txt) va ∧ Fx S S' := by
  refine r_w (fn := ⟨2, 4, c_contents_flow⟩) rfl rfl ?_
  show wO (exB _ _ c_contents_flow [some (.ref r), some (.ref v), none, none] S) _
  unfold c_contents_flow
  have e1 := e_lc_map (cl := run tb G (n + 1)) (gv := G) (own := [("name", 2), ("number", 3)]) (g := .tup (.cons (.nm 2) (.cons (.nm 3) .nil))) (it := .e (.var 0)) (e := .bin .Add (.bin .Add (.var 2) (.cst (.str " "))) (.blt .str (.cons (.var 3) .nil)))
    (ρ := [some (.ref r), some (.ref v), none, none]) (S := S) txtF (i_e (e_var rfl) (wk_lst hr)) hr (by rw [List.length_map]; show _ ≤ 16777216; omega) (fun x hx => by
      obtain ⟨e, hm, rfl⟩ := List.mem_map.mp hx
      exact ⟨_, a_tup rfl (as_cons a_nm (as_cons a_nm as_nil)), e_bin (e_bin (e_var rfl) e_cst (cat1 (he e hm) S)) (e_blt (es_cons (e_var rfl) es_nil) (ent_str (he e hm) S)) (cat2 (he e hm) S)⟩)
  rw [txtF_map] at e1
  obtain ⟨d, S', h1, h2, h3⟩ := paragraphs_ok n (S := S ++ [.lst ((es.map txt).map .str)]) (t := S.length) (v := v) (va := va) st_0 (st_old hv) (by rw [List.length_map]; exact hl)
  exact w_ret (e_call (es_cons e1 (es_cons (e_var rfl) es_nil)) h1) ⟨_, _, rfl, h2, (Fx.app _ _).trans h3⟩
def parF (v : Va) (d : Dv) : Dv := match d with
  | .str t => parD v t
  | _ => .non
theorem law_flow_ok (n : Nat) {S : Sto} {t v : Nat} {ts : List Str} {va : Va} (ht : S[t]? = some (.lst (ts.map .str))) (hv : S[v]? = some (.dct (vaK va))) (hl : ts.length ≤ 10000) :
    ∃ d S', run tb G (n + 1) 14 [.ref t, .ref v] S = .ok d S' ∧ d = flowD ts va ∧ Fx S S' := by
  refine r_w (fn := ⟨2, 5, c_law_flow⟩) rfl rfl ?_
  show wO (exB _ _ c_law_flow [some (.ref t), some (.ref v), none, none, none] S) _
  unfold c_law_flow
  refine w_asg (e_tup (es_cons (e_ix (e_var rfl) e_cst (ix_dct hv rfl rfl)) (es_cons (e_ix (e_var rfl) e_cst (ix_dct hv rfl rfl)) (es_cons (e_ix (e_var rfl) e_cst (ix_dct hv rfl rfl)) (es_cons (e_ix (e_var rfl) e_cst (ix_dct hv rfl rfl)) (es_cons (e_ix (e_var rfl) e_cst (ix_dct hv rfl rfl)) es_nil)))))) a_nm ?_
  refine w_asg (e_bin (e_var rfl) (e_tup (es_cons (e_ix (e_var rfl) e_cst (ix_dct hv rfl rfl)) (es_cons (e_ix (e_var rfl) e_cst (ix_dct hv rfl rfl)) es_nil))) (bi_catT (by exact Nat.le_of_ble_eq_true rfl))) a_nm ?_
  show wO (exB _ _ _ [some (.ref t), some (.ref v), some (styleD va), none, none] S) _
  have e1 := e_lc_map (cl := run tb G n) (gv := G) (own := [("text", 4)]) (g := .nm 4) (it := .e (.var 0)) (e := .tup (.cons (.tup (.cons (.tup (.cons (.cst (.str "text")) (.cons (.var 4) (.cons (.ix (.var 1) (.cst (.str "size"))) (.cons (.ix (.var 1) (.cst (.str "face"))) .nil))))) .nil)) (.cons (.var 2) .nil)))
    (ρ := [some (.ref t), some (.ref v), some (styleD va), none, none]) (S := S) (parF va) (i_e (e_var rfl) (wk_lst ht)) ht (by rw [List.length_map]; show _ ≤ 16777216; omega) (fun x hx => by
      obtain ⟨x, hm, rfl⟩ := List.mem_map.mp hx
      exact ⟨_, a_nm, e_tup (es_cons (e_tup (es_cons (e_tup (es_cons e_cst (es_cons (e_var rfl) (es_cons (e_ix (e_var rfl) e_cst (ix_dct hv rfl rfl)) (es_cons (e_ix (e_var rfl) e_cst (ix_dct hv rfl rfl)) es_nil))))) es_nil)) (es_cons (e_var rfl) es_nil))⟩)
  have hm : (ts.map Dv.str).map (parF va) = ts.map (parD va) := by rw [List.map_map]; rfl
  rw [hm] at e1
  refine w_asg e1 a_nm ?_
  refine w_ret (e_tup (es_cons (e_blt (es_cons (e_var rfl) es_nil) (bl_tuple (xs := ts.map (parD va)) (by unfold seqv; simp only [st_0]))) (es_cons (e_tup es_nil) (es_cons (e_tup es_nil) (es_cons (e_tup es_nil) (es_cons (e_tup es_nil) es_nil)))))) ⟨_, _, rfl, rfl, Fx.app _ _⟩
end K74

set_option Elab.async false
set_option linter.all false
set_option maxRecDepth 100000
set_option maxHeartbeats 4000000
/-! K74J: what the defs do, four: stretches, numbers by name. -/
namespace K74
open PySem Vm

/-! ### stretches -/
theorem addR_snoc (R : List (Int × Int)) (r : Int × Int) (v : Int) : addR (R ++ [r]) v = if v ≤ r.2 + 1 then R ++ [(r.1, v)] else R ++ [r] ++ [(v, v)] := by
  unfold addR
  rw [List.getLast?_concat]
  simp
def NumOk (ns : List Int) : Prop := ∀ n ∈ ns, 1 ≤ n ∧ n ≤ 9999
theorem sortI_ok {ns : List Int} (h : NumOk ns) : NumOk (sortI ns) := fun n hn => h n (by
  unfold sortI at hn
  exact List.mem_mergeSort.mp hn)
theorem sortI_len (ns : List Int) : (sortI ns).length = ns.length := by unfold sortI; exact List.length_mergeSort ns
/-- what stands behind i numbers: R the finished stretches -/
def Sti (ms : List Int) (i : Nat) (R : List (Int × Int)) (f l : Int) : Prop :=
  if i = 0 then R = [] ∧ f = 0 ∧ l = -5 else if i ≤ ms.length then rgs (ms.take i) = R ++ [(f, l)] else R = rgs ms
theorem stretched_ok (n : Nat) {S : Sto} {m : Nat} {ns : List Int} (h : S[m]? = some (.lst (ns.map .int))) (hl : ns.length ≤ 10000) (hok : NumOk ns) :
    ∃ d S', run tb G (n + 1) 13 [.ref m] S = .ok d S' ∧ d = .str (wrs (rgs (sortI ns))) ∧ Fx S S' := by
  refine r_w (fn := ⟨1, 6, c_law_stretched⟩) rfl rfl ?_
  show wO (exB _ _ c_law_stretched [some (.ref m), none, none, none, none, none] S) _
  unfold c_law_stretched
  refine w_asg (e_lst es_nil) a_nm ?_
  refine w_asg e_cst a_nm ?_
  refine w_asg (e_neg e_cst) a_nm ?_
  show wO (exB _ _ _ [some (.ref m), some (.ref S.length), some (.int 0), some (.int (-5)), none, none] _) _
  have hid : (ns.map Dv.int).map (fun d => d) = ns.map .int := by simp
  have e1 := e_lc_map (cl := run tb G n) (gv := G) (own := [("one", 5)]) (g := .nm 5) (it := .e (.var 0)) (e := .blt .int (.cons (.var 5) .nil))
    (ρ := [some (.ref m), some (.ref S.length), some (.int 0), some (.int (-5)), none, none]) (S := S ++ [.lst []]) (fun d => d) (i_e (e_var rfl) (wk_lst (st_old h))) (st_old h) (by rw [List.length_map]; show _ ≤ 16777216; omega) (fun x hx => by
      obtain ⟨x, hm, rfl⟩ := List.mem_map.mp hx
      exact ⟨_, a_nm, e_blt (es_cons (e_var rfl) es_nil) rfl⟩)
  rw [hid] at e1
  have l1 : (S ++ [Cel.lst []]).length = S.length + 1 := by simp
  have a1 : S ++ [Cel.lst []] ++ [Cel.lst (ns.map .int)] = S ++ [.lst [], .lst (ns.map .int)] := by simp
  rw [l1, a1] at e1
  have e2 : ev (run tb G n) G (.bin .Add (.blt .sorted (.cons (.lc [("one", 5)] (.nm 5) (.e (.var 0)) .none (.blt .int (.cons (.var 5) .nil))) .nil)) (.lst (.cons (.bin .Pow (.cst (.int 10)) (.cst (.int 9))) .nil))) [some (.ref m), some (.ref S.length), some (.int 0), some (.int (-5)), none, none] (S ++ [Cel.lst []]) =
      .ok (.ref (S.length + 4)) (S ++ [.lst [], .lst (ns.map .int), .lst ((sortI ns).map .int), .lst [.int 1000000000], .lst ((sortI ns ++ [1000000000]).map .int)]) := by
    refine e_bin (e_blt (es_cons e1 es_nil) (bl_sortedI st_1)) (e_lst (es_cons (e_bin e_cst e_cst rfl) es_nil)) ?_
    have z1 : S ++ [Cel.lst [], .lst (ns.map .int)] ++ [Cel.lst ((sortI ns).map .int)] ++ [Cel.lst [.int 1000000000]] = S ++ [.lst [], .lst (ns.map .int), .lst ((sortI ns).map .int), .lst [.int 1000000000]] := by simp
    have z2 : (S ++ [Cel.lst [], .lst (ns.map .int)] ++ [Cel.lst ((sortI ns).map .int)]).length = S.length + 3 := by simp
    have z3 : (S ++ [Cel.lst [], .lst (ns.map .int)]).length = S.length + 2 := by simp
    show binop .Add (.ref _) (.ref _) (S ++ [Cel.lst [], .lst (ns.map .int)] ++ [Cel.lst ((sortI ns).map .int)] ++ [Cel.lst [.int 1000000000]]) = _
    rw [z1, z2, z3, bi_catL (xs := (sortI ns).map .int) (ys := [.int 1000000000]) (by rw [st_k]; rfl) (by rw [st_k]; rfl) (by
      rw [List.length_map, sortI_len]
      show _ + 1 ≤ 16777216
      omega)]
    simp
  have hms := sortI_ok hok
  have hml := sortI_len ns
  generalize sortI ns = ms at e2 hms hml
  refine w_for (fun i ρ S' => ∃ R f l o1 o2 L, ρ = [some (.ref m), some (.ref S.length), some (.int f), some (.int l), o1, o2] ∧ S' = S ++ (.lst ((R.map wr).map .str) :: .lst (ns.map .int) :: .lst (ms.map .int) :: .lst [.int 1000000000] :: .lst ((ms ++ [1000000000]).map .int) :: L) ∧ Sti ms i R f l)
    (i_e e2 (wk_lst (by rw [st_k]; rfl))) ⟨[], 0, -5, none, none, [], rfl, rfl, ?_⟩ (fun i ρ S' _ hI => ?_) (fun i x ρ S' hx hI => ?_) (fun ρ S' hI => ?_)
  · unfold Sti
    rw [if_pos rfl]
    exact ⟨rfl, rfl, rfl⟩
  · obtain ⟨R, f, l, o1, o2, L, _, rfl, _⟩ := hI
    show (S ++ _)[S.length + 4]? = _
    rw [st_k]
    rfl
  · obtain ⟨R, f, l, o1, o2, L, rfl, rfl, hS⟩ := hI
    rw [List.getElem?_map] at hx
    cases hq : (ms ++ [1000000000])[i]? with
    | none => rw [hq] at hx; cases hx
    | some v =>
      rw [hq] at hx
      cases hx
      refine ⟨_, _, a_nm, ?_⟩
      show wO (exB _ _ _ [some (.ref m), some (.ref S.length), some (.int f), some (.int l), some (.int v), o2] _) _
      -- the last statement
      have fin : ∀ (R' : List (Int × Int)) (f' : Int) (L' : List Cel), Sti ms (i + 1) R' f' v → wO (exB (run tb G n) G (.cons (.asg (.nm 3) (.var 4)) .nil) [some (.ref m), some (.ref S.length), some (.int f'), some (.int l), some (.int v), o2]
          (S ++ (.lst ((R'.map wr).map .str) :: .lst (ns.map .int) :: .lst (ms.map .int) :: .lst [.int 1000000000] :: .lst ((ms ++ [1000000000]).map .int) :: L'))) fun o => ∃ ρ' S', (o = .nx ρ' S' ∨ o = .ct ρ' S') ∧
            ∃ R f l o1 o2 L, ρ' = [some (.ref m), some (.ref S.length), some (.int f), some (.int l), o1, o2] ∧ S' = S ++ (.lst ((R.map wr).map .str) :: .lst (ns.map .int) :: .lst (ms.map .int) :: .lst [.int 1000000000] :: .lst ((ms ++ [1000000000]).map .int) :: L) ∧ Sti ms (i + 1) R f l :=
        fun R' f' L' h => w_asg (e_var rfl) a_nm (w_nil (w_go ⟨R', f', v, _, _, L', rfl, rfl, h⟩))
      -- what is known of the number and of what stands
      have hv : (i < ms.length ∧ 1 ≤ v ∧ v ≤ 9999 ∧ ms[i]? = some v) ∨ (i = ms.length ∧ v = 1000000000) := by
        by_cases hi : i < ms.length
        · rw [List.getElem?_append_left hi] at hq
          have := hms v (List.mem_of_getElem? hq)
          exact .inl ⟨hi, this.1, this.2, hq⟩
        · rw [List.getElem?_append_right (by omega)] at hq
          have : i - ms.length = 0 := by
            by_cases z : i - ms.length = 0
            · exact z
            · rw [List.getElem?_eq_none (by simp; omega)] at hq; cases hq
          rw [this] at hq
          cases hq
          exact .inr ⟨by omega, rfl⟩
      unfold Sti at hS
      by_cases h0 : i = 0
      · -- the first
        rw [if_pos h0] at hS
        obtain ⟨rfl, rfl, rfl⟩ := hS
        have next : Sti ms (i + 1) [] v v := by
          unfold Sti
          rw [if_neg (by omega)]
          rcases hv with ⟨hi, _, _, hm⟩ | ⟨hi, _⟩
          · rw [if_pos (by omega), List.take_add_one, hm, h0, List.take_zero]
            rfl
          · rw [if_neg (by omega)]
            have : ms = [] := List.length_eq_zero_iff.mp (by omega)
            rw [this]
            rfl
        refine w_ite (k := true) (t_cmp (e_bin (e_var rfl) (e_var rfl) rfl) e_cst (by
          show Res.ok (Dv.bl (decide ((1 : Int) < v - -5))) _ = _
          rw [decide_eq_true (by rcases hv with ⟨_, h1, _⟩ | ⟨_, h1⟩ <;> omega)])) (fun _ => ?_) (fun z => nomatch z)
        refine w_skip (t_cmp (e_var rfl) e_cst rfl) ?_
        exact w_asg (e_var rfl) a_nm (w_nil (fin [] v L next))
      · rw [if_neg h0] at hS
        by_cases hi : i ≤ ms.length
        · rw [if_pos hi] at hS
          have hRok : ∀ r ∈ R ++ [(f, l)], RgOk r := by rw [← hS]; exact rgs_ok fun n hn => hms n (List.mem_of_mem_take hn)
          have hfl : RgOk (f, l) := hRok _ (List.mem_append_right _ (List.mem_singleton.mpr rfl))
          obtain ⟨f1, f2, f3, f4⟩ := hfl
          have f1 : 1 ≤ f := f1
          have f2 : f ≤ 9999 := f2
          have f3 : 1 ≤ l := f3
          have f4 : l ≤ 9999 := f4
          have hRl : R.length ≤ 10000 := by
            have := rgs_len (ms.take i)
            rw [hS, List.length_append, List.length_take, List.length_singleton] at this
            omega
          by_cases hgt : v ≤ l + 1
          · -- the stretch goes on
            have hv2 : i < ms.length ∧ ms[i]? = some v := by
              rcases hv with ⟨a, _, _, b⟩ | ⟨_, b⟩
              · exact ⟨a, b⟩
              · omega
            have next : Sti ms (i + 1) R f v := by
              unfold Sti
              rw [if_neg (by omega), if_pos (by omega), List.take_add_one, hv2.2]
              show rgs (_ ++ [v]) = _
              rw [rgs_snoc, hS, addR_snoc, if_pos hgt]
            refine w_skip (t_cmp (e_bin (e_var rfl) (e_var rfl) rfl) e_cst (by
              show Res.ok (Dv.bl (decide ((1 : Int) < v - l))) _ = _
              rw [decide_eq_false (by omega)])) ?_
            exact fin R f L next
          · -- a stretch is done
            refine w_ite (k := true) (t_cmp (e_bin (e_var rfl) (e_var rfl) rfl) e_cst (by
              show Res.ok (Dv.bl (decide ((1 : Int) < v - l))) _ = _
              rw [decide_eq_true (by omega)])) (fun _ => ?_) (fun z => nomatch z)
            have l1 := sI_len (i := f) (by omega) (by omega)
            have l2 := sI_len (i := l) (by omega) (by omega)
            have hd : ("-" : Str).length = 1 := by decide
            have s1 : ∀ S, bltop .str [.int f] S = .ok (.str (sI f)) S := fun S => bl_str (lg_ok (by omega) (by omega))
            have s2 : ∀ S, bltop .str [.int l] S = .ok (.str (sI l)) S := fun S => bl_str (lg_ok (by omega) (by omega))
            have c1 : ∀ S, binop .Add (.str (sI f)) (.str "-") S = .ok (.str (sI f ++ "-")) S := fun S => bi_cat (by rw [hd]; show _ ≤ 16777216; omega)
            have c2 : ∀ S, binop .Add (.str (sI f ++ "-")) (.str (sI l)) S = .ok (.str (sI f ++ "-" ++ sI l)) S := fun S => bi_cat (by rw [Str.length_append, hd]; show _ ≤ 16777216; omega)
            have pick : L2.atI [Dv.str (sI f ++ "-" ++ sI l), .str (sI f)] (if decide (f = l) = true then 1 else 0) = some (.str (wr (f, l))) := by
              by_cases hfl : f = l
              · rw [decide_eq_true hfl]
                show _ = some (Dv.str (if f = l then _ else _))
                rw [if_pos hfl]
                rfl
              · rw [decide_eq_false hfl]
                show _ = some (Dv.str (if f = l then _ else _))
                rw [if_neg hfl]
                rfl
            refine w_join (fun ρ' S' => ∃ L', ρ' = [some (.ref m), some (.ref S.length), some (.int f), some (.int l), some (.int v), o2] ∧ S' = S ++ (.lst (((R ++ [(f, l)]).map wr).map .str) :: .lst (ns.map .int) :: .lst (ms.map .int) :: .lst [.int 1000000000] :: .lst ((ms ++ [1000000000]).map .int) :: L'))
              (k := true) (t_cmp (e_var rfl) e_cst (by
              show Res.ok (Dv.bl (decide ((0 : Int) < l))) _ = _
              rw [decide_eq_true (by omega)])) (fun _ => ?_) (fun z => nomatch z) (fun ρ' S' hJ => ?_)
            · refine w_ex (e_mth (e_var rfl) (my_append st_0) (es_cons (e_ix (e_lst (es_cons (e_bin (e_bin (e_blt (es_cons (e_var rfl) es_nil) (s1 _)) e_cst (c1 _)) (e_blt (es_cons (e_var rfl) es_nil) (s2 _)) (c2 _)) (es_cons (e_blt (es_cons (e_var rfl) es_nil) (s1 _)) es_nil)))
                (e_blt (es_cons (e_cmp (e_var rfl) (e_var rfl) rfl) es_nil) rfl) (ix_lst st_0 pick)) es_nil) (mt_append (by rw [List.append_assoc]; exact st_0) ?_)) (w_nil ⟨_, _, rfl, L ++ [.lst [.str (sI f ++ "-" ++ sI l), .str (sI f)]], rfl, ?_⟩)
              · rw [List.length_map, List.length_map]
                show _ < 16777216
                omega
              · rw [List.append_assoc]
                show List.set (S ++ _ :: _) _ _ = _
                rw [set_0]
                simp
            · obtain ⟨L', rfl, rfl⟩ := hJ
              have next : Sti ms (i + 1) (R ++ [(f, l)]) v v := by
                unfold Sti
                rw [if_neg (by omega)]
                rcases hv with ⟨hi, _, _, hm⟩ | ⟨hi, _⟩
                · rw [if_pos (by omega), List.take_add_one, hm]
                  show rgs (_ ++ [v]) = _
                  rw [rgs_snoc, hS, addR_snoc, if_neg hgt]
                · rw [if_neg (by omega), ← hS, hi, List.take_length]
              exact w_asg (e_var rfl) a_nm (w_nil (fin _ v L' next))
        · rcases hv with ⟨a, _⟩ | ⟨a, _⟩ <;> omega
  · obtain ⟨R, f, l, o1, o2, L, rfl, rfl, hS⟩ := hI
    have hR : R = rgs ms := by
      unfold Sti at hS
      rw [List.length_map, List.length_append, List.length_singleton, if_neg (by omega), if_neg (by omega)] at hS
      exact hS
    subst hR
    have hRok : ∀ r ∈ rgs ms, RgOk r := rgs_ok hms
    have hRl := rgs_len ms
    refine w_ret (e_mth e_cst rfl (es_cons (e_var rfl) es_nil) (mt_join st_0 ?_)) ⟨_, _, rfl, rfl, Fx.app _ _⟩
    have := sum_le (B := 21) (ss := (rgs ms).map wr) (fun s hs => by
      obtain ⟨r, hr, rfl⟩ := List.mem_map.mp hs
      exact wr_len (hRok r hr))
    rw [List.length_map] at this
    rw [List.length_map, comma_len]
    show _ ≤ 16777216
    omega
end K74

set_option Elab.async false
set_option linter.all false
set_option maxRecDepth 100000
set_option maxHeartbeats 4000000
/-! K74K: what the defs do, five: numbers by name, the index. -/
namespace K74
open PySem Vm

theorem fr_fx {S S' : Sto} (f : Fx S S') (p : Nat) : Fr S S' p := ⟨f.len, fun j h _ => f.old j h⟩
/-- each once, in the order of first sight -/
def addN (acc : List Str) (x : Str) : List Str := if x ∈ acc then acc else acc ++ [x]
def dd (l : List Str) : List Str := l.foldl addN []
theorem dd_snoc (l : List Str) (x : Str) : dd (l ++ [x]) = addN (dd l) x := by unfold dd; rw [List.foldl_append]; rfl
theorem mem_addN {acc : List Str} {x y : Str} : y ∈ addN acc x ↔ y ∈ acc ∨ y = x := by
  unfold addN
  split
  · rename_i h
    constructor
    · exact .inl
    · rintro (h2 | rfl)
      · exact h2
      · exact h
  · simp
theorem mem_dd {l : List Str} {y : Str} : y ∈ dd l ↔ y ∈ l := by
  have key : ∀ (l acc : List Str), y ∈ l.foldl addN acc ↔ y ∈ acc ∨ y ∈ l := by
    intro l
    induction l with
    | nil => intro acc; simp
    | cons x r ih =>
      intro acc
      rw [List.foldl_cons, ih, mem_addN, List.mem_cons]
      constructor
      · rintro ((h | h) | h)
        · exact .inl h
        · exact .inr (.inl h)
        · exact .inr (.inr h)
      · rintro (h | h | h)
        · exact .inl (.inl h)
        · exact .inl (.inr h)
        · exact .inr h
  have := key l []
  unfold dd
  simpa using this
theorem dd_len (l : List Str) : (dd l).length ≤ l.length := by
  have key : ∀ (l acc : List Str), (l.foldl addN acc).length ≤ acc.length + l.length := by
    intro l
    induction l with
    | nil => intro acc; simp
    | cons x r ih =>
      intro acc
      rw [List.foldl_cons]
      refine Nat.le_trans (ih _) ?_
      have : (addN acc x).length ≤ acc.length + 1 := by
        unfold addN
        split
        · omega
        · simp
      rw [List.length_cons]
      omega
  have := key l []
  simpa [dd] using this
def grp (es : List Ent) (x : Str) : List Int := (es.filter fun e => decide (e.1 = x)).map (·.2)
theorem grp_snoc (es : List Ent) (e : Ent) (x : Str) : grp (es ++ [e]) x = if e.1 = x then grp es x ++ [e.2] else grp es x := by
  unfold grp
  rw [List.filter_append, List.map_append]
  by_cases h : e.1 = x
  · rw [if_pos h]
    simp [h]
  · rw [if_neg h]
    simp [h]
theorem grp_len (es : List Ent) (x : Str) : (grp es x).length ≤ es.length := by
  unfold grp
  rw [List.length_map]
  exact List.length_filter_le _ _
theorem grp_ok {es : List Ent} (h : ∀ e ∈ es, EntOk e) (x : Str) : NumOk (grp es x) := by
  intro n hn
  unfold grp at hn
  obtain ⟨e, he, rfl⟩ := List.mem_map.mp hn
  exact (h e (List.mem_filter.mp he).1).2
/-! ### pairs of a name and a cell -/
abbrev Ps := List (Str × Nat)
def kvP (ps : Ps) : KV := ps.map fun p => (.inr p.1, .ref p.2)
def putP (ps : Ps) (x : Str) (c : Nat) : Ps := if (ps.any fun p => decide (p.1 = x)) = true then ps.map (fun p => if p.1 = x then (p.1, c) else p) else ps ++ [(x, c)]
theorem putD_kvP (ps : Ps) (x : Str) (c : Nat) : putD (kvP ps) (.inr x) (.ref c) = kvP (putP ps x c) := by
  unfold putD putP kvP
  have e : ((ps.map fun p => ((.inr p.1 : Key), Dv.ref p.2)).any fun kv => decide (kv.1 = .inr x)) = ps.any fun p => decide (p.1 = x) := by
    rw [List.any_map]
    congr 1
    funext p
    simp
  rw [e]
  split
  · rw [List.map_map, List.map_map]
    apply List.map_congr_left
    intro p _
    simp only [Function.comp]
    by_cases h : p.1 = x
    · simp [h]
    · have h2 : ¬(Sum.inr p.1 : Key) = Sum.inr x := fun z => h (Sum.inr.inj z)
      simp [h, h2]
  · rw [List.map_append]
    rfl
theorem putP_mem {ps : Ps} {x : Str} {c : Nat} {p : Str × Nat} (h : p ∈ putP ps x c) : p = (x, c) ∨ (p ∈ ps ∧ p.1 ≠ x) := by
  unfold putP at h
  split at h
  · obtain ⟨q, hq, rfl⟩ := List.mem_map.mp h
    by_cases hx : q.1 = x
    · rw [if_pos hx, hx]; exact .inl rfl
    · rw [if_neg hx]; exact .inr ⟨hq, hx⟩
  · rename_i hn
    rcases List.mem_append.mp h with h | h
    · refine .inr ⟨h, fun e => hn ?_⟩
      exact List.any_eq_true.mpr ⟨p, h, decide_eq_true e⟩
    · rw [List.mem_singleton] at h
      exact .inl h
theorem putP_fst (ps : Ps) (x : Str) (c : Nat) : (putP ps x c).map (·.1) = addN (ps.map (·.1)) x := by
  unfold putP addN
  have e : (ps.any fun p => decide (p.1 = x)) = true ↔ x ∈ ps.map (·.1) := by
    rw [List.any_eq_true, List.mem_map]
    constructor
    · rintro ⟨p, h1, h2⟩
      exact ⟨p, h1, of_decide_eq_true h2⟩
    · rintro ⟨p, h1, h2⟩
      exact ⟨p, h1, decide_eq_true h2⟩
  by_cases h : (ps.any fun p => decide (p.1 = x)) = true
  · rw [if_pos h, if_pos (e.mp h), List.map_map]
    apply List.map_congr_left
    intro p _
    simp only [Function.comp]
    split <;> rfl
  · rw [if_neg h, if_neg (fun z => h (e.mpr z)), List.map_append]
    rfl
theorem getD_kvP {ps : Ps} {x : Str} (h : x ∈ ps.map (·.1)) : ∃ c, getD (kvP ps) (.inr x) = some (.ref c) ∧ (x, c) ∈ ps := by
  induction ps with
  | nil => cases h
  | cons p r ih =>
    by_cases hx : p.1 = x
    · refine ⟨p.2, ?_, by rw [← hx]; exact List.mem_cons_self⟩
      unfold getD kvP
      rw [List.map_cons, List.find?_cons, decide_eq_true (by rw [hx])]
      rfl
    · rw [List.map_cons] at h
      rcases List.mem_cons.mp h with h | h
      · exact absurd h.symm hx
      · obtain ⟨c, h1, h2⟩ := ih h
        refine ⟨c, ?_, List.mem_cons_of_mem _ h2⟩
        unfold getD kvP at h1 ⊢
        rw [List.map_cons, List.find?_cons, decide_eq_false (fun z => hx (Sum.inr.inj z))]
        exact h1
theorem putP_len (ps : Ps) (x : Str) (c : Nat) : (putP ps x c).length ≤ ps.length + 1 := by
  unfold putP
  split
  · rw [List.length_map]; omega
  · simp
/-- the dict of names at d: its lists' contents by F -/
structure NI (S0 S : Sto) (d : Nat) (ps : Ps) (F : Str → List Int) : Prop where
  fx : Fx S0 S
  d0 : S0.length ≤ d
  hd : S[d]? = some (.dct (kvP ps))
  uq : ∀ p ∈ ps, ∀ q ∈ ps, p.1 = q.1 ↔ p.2 = q.2
  cell : ∀ p ∈ ps, p.2 ≠ d ∧ S0.length ≤ p.2 ∧ S[p.2]? = some (.lst ((F p.1).map .int))
def fstF (d : Dv) : Dv := match d with
  | .tup [.str a, .int b] => .str a
  | _ => .non
theorem fstF_map (es : List Ent) : (es.map entD).map fstF = (es.map (·.1)).map .str := by
  rw [List.map_map, List.map_map]
  rfl
theorem sortS_len (ns : List Str) : (sortS ns).length = ns.length := by unfold sortS; exact List.length_mergeSort ns
theorem mem_sortS {ns : List Str} {x : Str} : x ∈ sortS ns ↔ x ∈ ns := by unfold sortS; exact List.mem_mergeSort
theorem numbers_ok (n : Nat) {S : Sto} {r : Nat} {es : List Ent} (hr : S[r]? = some (.lst (es.map entD))) (hl : es.length ≤ 29) :
    ∃ d S', run tb G (n + 1) 5 [.ref r] S = .ok d S' ∧ ∃ dn ps, d = .ref dn ∧ NI S S' dn ps (grp es) ∧ ps.map (·.1) = dd (sortS (es.map (·.1))) := by
  refine r_w (fn := ⟨1, 5, c_numbers_by_name⟩) rfl rfl ?_
  show wO (exB _ _ c_numbers_by_name [some (.ref r), none, none, none, none] S) _
  unfold c_numbers_by_name
  refine w_asg (e_dct ep_nil) a_nm ?_
  show wO (exB _ _ _ [some (.ref r), some (.ref S.length), none, none, none] (S ++ [.dct []])) _
  have lt := st_lt hr
  have e1 := e_lc_map (cl := run tb G n) (gv := G) (own := [("entry", 4)]) (g := .nm 4) (it := .e (.var 0)) (e := .ix (.var 4) (.cst (.int 0)))
    (ρ := [some (.ref r), some (.ref S.length), none, none, none]) (S := S ++ [.dct []]) fstF (i_e (e_var rfl) (wk_lst (st_old hr))) (st_old hr) (by rw [List.length_map]; show _ ≤ 16777216; omega) (fun x hx => by
      obtain ⟨e, hm, rfl⟩ := List.mem_map.mp hx
      exact ⟨_, a_nm, e_ix (e_var rfl) e_cst (ix_tup rfl)⟩)
  rw [fstF_map] at e1
  have a1 : S ++ [Cel.dct []] ++ [Cel.lst ((es.map (·.1)).map .str)] = S ++ [.dct [], .lst ((es.map (·.1)).map .str)] := by simp
  have l1 : (S ++ [Cel.dct []]).length = S.length + 1 := by simp
  rw [a1, l1] at e1
  have a2 : S ++ [Cel.dct [], .lst ((es.map (·.1)).map .str)] ++ [Cel.lst ((sortS (es.map (·.1))).map .str)] = S ++ [.dct [], .lst ((es.map (·.1)).map .str), .lst ((sortS (es.map (·.1))).map .str)] := by simp
  have l2 : (S ++ [Cel.dct [], .lst ((es.map (·.1)).map .str)]).length = S.length + 2 := by simp
  have e2 : ev (run tb G n) G (.blt .sorted (.cons (.lc [("entry", 4)] (.nm 4) (.e (.var 0)) .none (.ix (.var 4) (.cst (.int 0)))) .nil)) [some (.ref r), some (.ref S.length), none, none, none] (S ++ [.dct []]) =
      .ok (.ref (S.length + 2)) (S ++ [.dct [], .lst ((es.map (·.1)).map .str), .lst ((sortS (es.map (·.1))).map .str)]) := by
    refine e_blt (es_cons e1 es_nil) ?_
    rw [bl_sortedS st_1 (by rw [List.length_map]; omega), a2, l2]
  have hnl : (sortS (es.map (·.1))).length ≤ 29 := by rw [sortS_len, List.length_map]; exact hl
  have hmem : ∀ e ∈ es, e.1 ∈ sortS (es.map (·.1)) := fun e he => mem_sortS.mpr (List.mem_map.mpr ⟨e, he, rfl⟩)
  generalize sortS (es.map (·.1)) = names at e2 hnl hmem
  refine w_for (fun i ρ S' => ∃ ps o1, ρ = [some (.ref r), some (.ref S.length), o1, none, none] ∧ NI S S' S.length ps (fun _ => []) ∧ ps.map (·.1) = dd (names.take i) ∧ S'[S.length + 2]? = some (.lst (names.map .str)) ∧ ∀ p ∈ ps, p.2 ≠ S.length + 2)
    (i_e e2 (wk_lst st_2)) ⟨[], none, rfl, ⟨Fx.app _ _, Nat.le_refl _, st_0, (fun _ z => nomatch z), (fun _ z => nomatch z)⟩, rfl, st_2, (fun _ z => nomatch z)⟩ (fun i ρ S' _ hI => ?_) (fun i x ρ S' hx hI => ?_) (fun ρ S' hI => ?_)
  · obtain ⟨ps, o1, _, _, _, h, _⟩ := hI
    exact h
  · obtain ⟨ps, o1, rfl, N, hfst, hnm, hne⟩ := hI
    rw [List.getElem?_map] at hx
    cases hq : names[i]? with
    | none => rw [hq] at hx; cases hx
    | some x =>
      rw [hq] at hx
      cases hx
      refine ⟨_, _, a_nm, ?_⟩
      have ld := st_lt N.hd
      have ln := st_lt hnm
      have hpl : ps.length ≤ 29 := by
        have h1 : ps.length = (ps.map (·.1)).length := (List.length_map ..).symm
        have h2 := dd_len (names.take i)
        rw [hfst] at h1
        rw [List.length_take] at h2
        omega
      refine w_asg (e_lst es_nil) (a_ix (e_var rfl) (e_var rfl) (st_set_d (st_old N.hd) rfl (by
        unfold kvP
        rw [List.length_map]
        show _ < 16777216
        omega))) (w_nil (w_go ⟨putP ps x S'.length, _, rfl, ⟨?_, Nat.le_refl _, ?_, ?_, ?_⟩, ?_, ?_, ?_⟩))
      · exact (N.fx.trans (Fx.app _ _)).set (Nat.le_refl _)
      · rw [List.getElem?_set_self (by simp; omega), putD_kvP]
      · intro p hp q hq'
        rcases putP_mem hp with rfl | ⟨hp, hp2⟩
        · rcases putP_mem hq' with rfl | ⟨hq', hq2⟩
          · exact ⟨fun _ => rfl, fun _ => rfl⟩
          · have := st_lt (N.cell q hq').2.2
            exact ⟨fun e => absurd e.symm hq2, fun e => by simp only at e; omega⟩
        · rcases putP_mem hq' with rfl | ⟨hq', hq2⟩
          · have := st_lt (N.cell p hp).2.2
            exact ⟨fun e => absurd e hp2, fun e => by simp only at e; omega⟩
          · exact N.uq p hp q hq'
      · intro p hp
        rcases putP_mem hp with rfl | ⟨hp, _⟩
        · refine ⟨by simp only; omega, by simp only; omega, ?_⟩
          rw [List.getElem?_set_ne (by omega)]
          exact st_0
        · obtain ⟨c1, c2, c3⟩ := N.cell p hp
          refine ⟨c1, c2, ?_⟩
          rw [List.getElem?_set_ne (Ne.symm c1)]
          exact st_old c3
      · rw [putP_fst, hfst, List.take_add_one, hq]
        exact (dd_snoc _ _).symm
      · rw [List.getElem?_set_ne (by omega)]
        exact st_old hnm
      · intro p hp
        rcases putP_mem hp with rfl | ⟨hp, _⟩
        · simp only
          omega
        · exact hne p hp
  · obtain ⟨ps, o1, rfl, N, hfst, hnm, hne⟩ := hI
    rw [List.length_map, List.take_length] at hfst
    have hin : ∀ e ∈ es, e.1 ∈ ps.map (·.1) := fun e he => by rw [hfst, mem_dd]; exact hmem e he
    refine w_for (fun i ρ S' => ∃ o1 o2, ρ = [some (.ref r), some (.ref S.length), o1, o2, none] ∧ NI S S' S.length ps (grp (es.take i))) (i_e (e_var rfl) (wk_lst (N.fx.get hr))) ⟨o1, none, rfl, N⟩ (fun i ρ S' _ hI => ?_) (fun i x ρ S' hx hI => ?_) (fun ρ S' hI => ?_)
    · obtain ⟨_, _, _, N'⟩ := hI
      exact N'.fx.get hr
    · obtain ⟨o1, o2, rfl, N'⟩ := hI
      rw [List.getElem?_map] at hx
      cases hq : es[i]? with
      | none => rw [hq] at hx; cases hx
      | some e =>
        rw [hq] at hx
        cases hx
        refine ⟨_, _, a_tup rfl (as_cons a_nm (as_cons a_nm as_nil)), ?_⟩
        obtain ⟨c, hc1, hc2⟩ := getD_kvP (hin e (List.mem_of_getElem? hq))
        obtain ⟨q1, q2, q3⟩ := N'.cell _ hc2
        have q1 : c ≠ S.length := q1
        have q2 : S.length ≤ c := q2
        have hgl := grp_len (es.take i) e.1
        rw [List.length_take] at hgl
        have hix : ev (run tb G n) G (.ix (.var 1) (.var 2)) [some (.ref r), some (.ref S.length), some (.str e.1), some (.int e.2), none] S' = .ok (.ref c) S' := e_ix (e_var rfl) (e_var rfl) (ix_dct N'.hd rfl hc1)
        refine w_ex (e_mth hix (my_append q3) (es_cons (e_var rfl) es_nil) (mt_append q3 ?_)) (w_nil (w_go ⟨_, _, rfl, ⟨N'.fx.set q2, N'.d0, ?_, N'.uq, fun p hp => ?_⟩⟩))
        · rw [List.length_map]
          show (grp (es.take i) e.1).length < 16777216
          omega
        · rw [List.getElem?_set_ne q1]
          exact N'.hd
        · obtain ⟨z1, z2, z3⟩ := N'.cell p hp
          refine ⟨z1, z2, ?_⟩
          rw [List.take_add_one, hq]
          show _ = some (Cel.lst ((grp (es.take i ++ [e]) p.1).map .int))
          rw [grp_snoc]
          by_cases hpc : p.2 = c
          · have h1 : p.1 = e.1 := (N'.uq p hp _ hc2).mpr hpc
            rw [hpc, List.getElem?_set_self (st_lt q3), h1, if_pos rfl, List.map_append]
            rfl
          · have h1 : ¬e.1 = p.1 := fun z => hpc ((N'.uq p hp _ hc2).mp z.symm)
            rw [List.getElem?_set_ne (Ne.symm hpc), if_neg h1]
            exact z3
    · obtain ⟨o1, o2, rfl, N'⟩ := hI
      rw [List.length_map, List.take_length] at N'
      exact w_ret (e_var rfl) ⟨_, _, rfl, _, ps, rfl, N', hfst⟩
/-- a row of the index -/
def row (es : List Ent) (x : Str) : Str := x ++ " " ++ wrs (rgs (sortI (grp es x)))
theorem row_cat {es : List Ent} (he : ∀ e ∈ es, EntOk e) (hl : es.length ≤ 29) {x : Str} (hx : x.length ≤ 8) (S : Sto) :
    binop .Add (.str x) (.str " ") S = .ok (.str (x ++ " ")) S ∧ binop .Add (.str (x ++ " ")) (.str (wrs (rgs (sortI (grp es x))))) S = .ok (.str (row es x)) S := by
  have h1 := wrs_len (R := rgs (sortI (grp es x))) (rgs_ok (sortI_ok (grp_ok he x)))
  have h2 := rgs_len (sortI (grp es x))
  have h3 := grp_len es x
  rw [sortI_len] at h2
  refine ⟨bi_cat ?_, bi_cat ?_⟩
  · rw [sp_len]
    show _ ≤ 16777216
    omega
  · rw [Str.length_append, sp_len]
    show _ ≤ 16777216
    omega
theorem index_ok (n : Nat) {S : Sto} {r v : Nat} {es : List Ent} {va : Va} (hr : S[r]? = some (.lst (es.map entD))) (hv : S[v]? = some (.dct (vaK va))) (hl : es.length ≤ 29) (he : ∀ e ∈ es, EntOk e) :
    ∃ d S', run tb G (n + 3) 6 [.ref r, .ref v] S = .ok d S' ∧ d = flowD ((dd (sortS (es.map (·.1)))).map (row es)) va ∧ Fx S S' := by
  refine r_w (fn := ⟨2, 5, c_index_flow⟩) rfl rfl ?_
  show wO (exB _ _ c_index_flow [some (.ref r), some (.ref v), none, none, none] S) _
  unfold c_index_flow
  refine w_asg (e_lst es_nil) a_nm ?_
  show wO (exB _ _ _ [some (.ref r), some (.ref v), some (.ref S.length), none, none] (S ++ [.lst []])) _
  obtain ⟨d, S2, hn, dn, ps, rfl, N, hfst⟩ := numbers_ok (n + 1) (S := S ++ [.lst []]) (r := r) (es := es) (st_old hr) hl
  have l1 : (S ++ [Cel.lst []]).length = S.length + 1 := by simp
  have hd0 := N.d0
  rw [l1] at hd0
  have lr := st_lt hr
  have lv := st_lt hv
  have ld := st_lt N.hd
  have hpl : ps.length ≤ 29 := by
    have h1 : ps.length = (ps.map (·.1)).length := (List.length_map ..).symm
    have h2 := dd_len (sortS (es.map (·.1)))
    rw [hfst] at h1
    rw [sortS_len, List.length_map] at h2
    omega
  have hname : ∀ p ∈ ps, p.1.length ≤ 8 := fun p hp => by
    have h1 : p.1 ∈ ps.map (·.1) := List.mem_map.mpr ⟨p, hp, rfl⟩
    rw [hfst, mem_dd, mem_sortS] at h1
    obtain ⟨e, hem, h2⟩ := List.mem_map.mp h1
    rw [← h2]
    exact (he e hem).1
  refine w_fori (fun i ρ S' => ∃ o1 o2, ρ = [some (.ref r), some (.ref v), some (.ref S.length), o1, o2] ∧ Fr (S2.set dn (.fd (kvP ps))) S' S.length ∧ S'[S.length]? = some (.lst (((ps.take i).map fun p => row es p.1).map .str)))
    (e_call (es_cons (e_var rfl) es_nil) hn) N.hd ⟨none, none, rfl, Fr.refl _ _, ?_⟩ (fun i ρ S' _ hI => ?_) (fun i kv ρ S' hx hI => ?_) (fun ρ S' hI => ?_)
  · rw [List.getElem?_set_ne (by omega)]
    exact N.fx.get st_0
  · obtain ⟨_, _, _, F, _⟩ := hI
    exact F.get (List.getElem?_set_self ld) (by omega)
  · obtain ⟨o1, o2, rfl, F, ht⟩ := hI
    unfold kvP at hx
    rw [List.getElem?_map] at hx
    cases hq : ps[i]? with
    | none => rw [hq] at hx; cases hx
    | some p =>
      rw [hq] at hx
      cases hx
      have hp := List.mem_of_getElem? hq
      obtain ⟨c1, c2, c3⟩ := N.cell p hp
      rw [l1] at c2
      have gc : S'[p.2]? = some (.lst ((grp es p.1).map .int)) := F.get (by rw [List.getElem?_set_ne (Ne.symm c1)]; exact c3) (by omega)
      have hgl := grp_len es p.1
      obtain ⟨d3, S3, h3, rfl, l3, rfl⟩ := ranges_ok (n + 1) gc (by omega)
      have hrl := rgs_len (sortI (grp es p.1))
      rw [sortI_len] at hrl
      obtain ⟨d4, S4, h4, rfl, F4⟩ := write_ranges_ok n (R := rgs (sortI (grp es p.1))) (rgs_ok (sortI_ok (grp_ok he p.1))) (by omega) (S' ++ l3)
      have F34 : Fx S' S4 := (Fx.app _ _).trans F4
      have ht4 := F34.get ht
      refine ⟨_, _, a_tup rfl (as_cons a_nm (as_cons a_nm as_nil)), ?_⟩
      refine w_ex (e_mth (e_var rfl) (my_append ht) (es_cons (e_bin (e_bin (e_var rfl) e_cst (row_cat he hl (hname p hp) _).1) (e_call (es_cons (e_call (es_cons (e_var rfl) es_nil) h3) es_nil) h4) (row_cat he hl (hname p hp) _).2) es_nil) (mt_append ht4 ?_)) (w_nil (w_go ⟨_, _, rfl, (F.trans (fr_fx F34 _)).trans (Fr.set _ _ _), ?_⟩))
      · rw [List.length_map, List.length_map, List.length_take]
        show _ < 16777216
        omega
      · rw [List.getElem?_set_self (st_lt ht4), List.take_add_one, hq, List.map_append, List.map_append]
        rfl
  · obtain ⟨o1, o2, rfl, F, ht⟩ := hI
    have hk : (kvP ps).length = ps.length := List.length_map ..
    rw [hk, List.take_length] at ht
    have hrow : (ps.map fun p => row es p.1) = (dd (sortS (es.map (·.1)))).map (row es) := by rw [← hfst, List.map_map]; rfl
    rw [hrow] at ht
    have ht5 : (S'.set dn (.dct (kvP ps)))[S.length]? = some (.lst (((dd (sortS (es.map (·.1)))).map (row es)).map .str)) := by
      rw [List.getElem?_set_ne (by omega)]
      exact ht
    have hold : ∀ j, j < S.length → (S'.set dn (.dct (kvP ps)))[j]? = S[j]? := fun j hj => by
      rw [List.getElem?_set_ne (by omega), F.old j (by rw [List.length_set]; have := N.fx.len; rw [l1] at this; omega) (by omega), List.getElem?_set_ne (by omega), N.fx.old j (by rw [l1]; omega), List.getElem?_append_left hj]
    have hv5 : (S'.set dn (.dct (kvP ps)))[v]? = some (.dct (vaK va)) := (hold v lv).trans hv
    obtain ⟨d6, S6, h6, rfl, F6⟩ := paragraphs_ok (n + 1) ht5 hv5 (by
      rw [List.length_map]
      have h2 := dd_len (sortS (es.map (·.1)))
      rw [sortS_len, List.length_map] at h2
      omega)
    refine w_ret (e_call (es_cons (e_var rfl) (es_cons (e_var rfl) es_nil)) h6) ⟨_, _, rfl, rfl, ⟨?_, fun j hj => ?_⟩⟩
    · have h1 := F6.len
      have h2 := F.len
      have h3 := N.fx.len
      rw [List.length_set] at h1 h2
      rw [l1] at h3
      omega
    · rw [F6.old j (by have h2 := F.len; have h3 := N.fx.len; rw [List.length_set] at h2 ⊢; rw [l1] at h3; omega)]
      exact hold j hj
end K74

set_option Elab.async false
set_option linter.all false
set_option maxRecDepth 100000
set_option maxHeartbeats 4000000
/-! K74G: the law. -/
namespace K74
open PySem Vm

theorem isIn_strs (x : Str) : ∀ l : List Str, isIn (.str x) (l.map .str) = some (decide (x ∈ l))
  | [] => rfl
  | y :: r => by
    rw [List.map_cons, isIn, isIn_strs x r]
    show some (decide (y = x) || decide (x ∈ r)) = _
    congr 1
    by_cases h1 : y = x
    · rw [decide_eq_true h1, Bool.true_or, decide_eq_true (by rw [h1]; exact List.mem_cons_self)]
    · by_cases h2 : x ∈ r
      · rw [decide_eq_true h2, Bool.or_true, decide_eq_true (List.mem_cons_of_mem _ h2)]
      · rw [decide_eq_false h1, decide_eq_false h2, decide_eq_false (fun h => (List.mem_cons.mp h).elim (fun z => h1 z.symm) h2)]
        rfl
theorem not_in {S : Sto} {a : Nat} {l : List Str} {x : Str} (h : S[a]? = some (.lst (l.map .str))) : cmpop .NotIn (.str x) (.ref a) S = .ok (.bl (!decide (x ∈ l))) S := by
  show inop (.str x) (.ref a) S true = _
  unfold inop seqv
  simp only [h]
  rw [isIn_strs]
  rfl
theorem same_dct (v : Va) : dctSame (vaK v) (vaK v) = true := by
  unfold dctSame
  rw [decide_eq_true rfl, Bool.true_and, List.all_eq_true]
  intro p hp
  simp only [vaK, List.mem_cons, List.not_mem_nil, or_false] at hp
  rcases hp with rfl | rfl | rfl | rfl | rfl | rfl | rfl | rfl | rfl | rfl
  · exact decide_eq_true rfl
  · exact decide_eq_true rfl
  · exact decide_eq_true rfl
  · exact decide_eq_true rfl
  · exact decide_eq_true rfl
  · exact decide_eq_true rfl
  · exact decide_eq_true rfl
  · exact decide_eq_true rfl
  · exact decide_eq_true rfl
  · exact decide_eq_true rfl
theorem eq_dct {S : Sto} {a b : Nat} {v : Va} (ha : S[a]? = some (.dct (vaK v))) (hb : S[b]? = some (.dct (vaK v))) : cmpop .Eq (.ref a) (.ref b) S = .ok (.bl true) S := by
  have h1 : dctEq S (.ref a) (.ref b) = some true := by
    unfold dctEq
    simp only [ha, hb]
    rw [if_pos (same_dct v)]
  have h2 : eqop (.ref a) (.ref b) S = some true := by
    unfold eqop
    rw [show feq (.ref a) (.ref b) = none from rfl, h1]
  show (match eqop (.ref a) (.ref b) S with
    | some b => Res.ok (Dv.bl b) S
    | none => .no) = _
  rw [h2]
theorem pl_ent (e : Ent) : Pl 1 (entD e) := .tup (fun x hx => by
  simp only [List.mem_cons, List.not_mem_nil, or_false] at hx
  rcases hx with rfl | rfl
  · exact .str _ _
  · exact .int _ _) (by exact Nat.le_of_ble_eq_true rfl)
def isN (x : Str) (d : Dv) : Bool := match d with
  | .tup [.str a, .int b] => decide (a = x)
  | _ => false
def numF (d : Dv) : Dv := match d with
  | .tup [.str a, .int b] => .int b
  | _ => .non
theorem grp_map (es : List Ent) (x : Str) : ((es.map entD).filter (isN x)).map numF = (grp es x).map .int := by
  unfold grp
  rw [List.filter_map, List.map_map, List.map_map]
  rfl
theorem flows_ok (n : Nat) {S : Sto} {e v : Nat} {es : List Ent} {va : Va} (he : S[e]? = some (.lst (es.map entD))) (hv : S[v]? = some (.dct (vaK va))) (hl : es.length ≤ 29) (hok : ∀ e ∈ es, EntOk e) :
    ∃ d S', run tb G (n + 7) 15 [.ref e, .ref v] S = .ok d S' ∧ d = .bl true ∧ Fx S S' := by
  refine r_w (fn := ⟨2, 8, c_law_flows_so⟩) rfl rfl ?_
  show wO (exB _ _ c_law_flows_so [some (.ref e), some (.ref v), none, none, none, none, none, none] S) _
  unfold c_law_flows_so
  refine w_asg (e_blt (es_cons (e_var rfl) es_nil) (bl_list (xs := es.map entD) (by unfold seqv; simp only [he]))) a_nm ?_
  refine w_asg (e_blt (es_cons (e_var rfl) es_nil) (bl_dict (st_old hv))) a_nm ?_
  have a1 : S ++ [Cel.lst (es.map entD)] ++ [Cel.dct (vaK va)] = S ++ [.lst (es.map entD), .dct (vaK va)] := by simp
  have l1 : (S ++ [Cel.lst (es.map entD)]).length = S.length + 1 := by simp
  rw [a1, l1]
  have le := st_lt he
  have lv := st_lt hv
  show wO (exB _ _ _ [some (.ref e), some (.ref v), some (.ref S.length), some (.ref (S.length + 1)), none, none, none, none] _) _
  have e1 := e_lc_map (cl := run tb G (n + 6)) (gv := G) (own := [("one", 7)]) (g := .nm 7) (it := .e (.var 0)) (e := .bin .Add (.bin .Add (.ix (.var 7) (.cst (.int 0))) (.cst (.str " "))) (.blt .str (.cons (.ix (.var 7) (.cst (.int 1))) .nil)))
    (ρ := [some (.ref e), some (.ref v), some (.ref S.length), some (.ref (S.length + 1)), none, none, none, none]) (S := S ++ [.lst (es.map entD), .dct (vaK va)]) txtF (i_e (e_var rfl) (wk_lst (st_old he))) (st_old he) (by rw [List.length_map]; show _ ≤ 16777216; omega) (fun x hx => by
      obtain ⟨y, hm, rfl⟩ := List.mem_map.mp hx
      exact ⟨_, a_nm, e_bin (e_bin (e_ix (e_var rfl) e_cst (ix_tup rfl)) e_cst (cat1 (hok y hm) _)) (e_blt (es_cons (e_ix (e_var rfl) e_cst (ix_tup rfl)) es_nil) (ent_str (hok y hm) _)) (cat2 (hok y hm) _)⟩)
  rw [txtF_map] at e1
  have a2 : S ++ [Cel.lst (es.map entD), .dct (vaK va)] ++ [Cel.lst ((es.map txt).map .str)] = S ++ [.lst (es.map entD), .dct (vaK va), .lst ((es.map txt).map .str)] := by simp
  have l2 : (S ++ [Cel.lst (es.map entD), .dct (vaK va)]).length = S.length + 2 := by simp
  rw [a2, l2] at e1
  refine w_asg e1 a_nm ?_
  show wO (exB _ _ _ [some (.ref e), some (.ref v), some (.ref S.length), some (.ref (S.length + 1)), some (.ref (S.length + 2)), none, none, none] _) _
  -- the contents
  obtain ⟨d2, S2, h2, rfl, F2⟩ := contents_ok (n + 4) (S := S ++ [.lst (es.map entD), .dct (vaK va), .lst ((es.map txt).map .str)]) (r := S.length) (v := S.length + 1) (es := es) (va := va) st_0 st_1 (by omega) hok
  obtain ⟨d3, S3, h3, rfl, F3⟩ := law_flow_ok (n + 5) (S := S2) (t := S.length + 2) (v := v) (ts := es.map txt) (va := va) (F2.get st_2) (F2.get (st_old hv)) (by rw [List.length_map]; omega)
  have p1 : Pl 5 (flowD (es.map txt) va) := pl_flow va (by rw [List.length_map]; show _ ≤ 16777216; omega)
  have F23 := F2.trans F3
  refine w_skip (t_nt (t_tr (e_call (es_cons (e_call (es_cons (e_var rfl) (es_cons (e_var rfl) es_nil)) h2) (es_cons (e_call (es_cons (e_var rfl) (es_cons (e_var rfl) es_nil)) h3) es_nil)) (same_pl p1 n S3)) rfl)) ?_
  have g1 := F23.get (j := S.length) st_0
  have g2 := F23.get (j := S.length + 1) st_1
  have ge := F23.get (st_old (l := [.lst (es.map entD), .dct (vaK va), .lst ((es.map txt).map .str)]) he)
  have gv' := F23.get (st_old (l := [.lst (es.map entD), .dct (vaK va), .lst ((es.map txt).map .str)]) hv)
  have F0 : Fx S S3 := (Fx.app _ _).trans F23
  clear h2 h3 e1 p1 F2 F3 F23
  have k1 := st_lt g1
  have k2 := st_lt g2
  -- the index
  refine w_asg (e_lst es_nil) a_nm ?_
  refine w_asg (e_lst es_nil) a_nm ?_
  have a3 : S3 ++ [Cel.lst []] ++ [Cel.lst []] = S3 ++ [.lst [], .lst []] := by simp
  have l3 : (S3 ++ [Cel.lst []]).length = S3.length + 1 := by simp
  rw [a3, l3]
  show wO (exB _ _ _ [some (.ref e), some (.ref v), some (.ref S.length), some (.ref (S.length + 1)), some (.ref (S3.length + 1)), some (.ref S3.length), none, none] _) _
  have e4 := e_lc_map (cl := run tb G (n + 6)) (gv := G) (own := [("one", 7)]) (g := .nm 7) (it := .e (.var 0)) (e := .blt .str (.cons (.ix (.var 7) (.cst (.int 0))) .nil))
    (ρ := [some (.ref e), some (.ref v), some (.ref S.length), some (.ref (S.length + 1)), some (.ref (S3.length + 1)), some (.ref S3.length), none, none]) (S := S3 ++ [.lst [], .lst []]) fstF (i_e (e_var rfl) (wk_lst (st_old ge))) (st_old ge) (by rw [List.length_map]; show _ ≤ 16777216; omega) (fun x hx => by
      obtain ⟨y, hm, rfl⟩ := List.mem_map.mp hx
      exact ⟨_, a_nm, e_blt (es_cons (e_ix (e_var rfl) e_cst (ix_tup rfl)) es_nil) rfl⟩)
  rw [fstF_map] at e4
  have a5 : S3 ++ [Cel.lst [], .lst []] ++ [Cel.lst ((es.map (·.1)).map .str)] = S3 ++ [.lst [], .lst [], .lst ((es.map (·.1)).map .str)] := by simp
  have l5 : (S3 ++ [Cel.lst [], .lst []]).length = S3.length + 2 := by simp
  rw [a5, l5] at e4
  have a6 : S3 ++ [Cel.lst [], .lst [], .lst ((es.map (·.1)).map .str)] ++ [Cel.lst ((sortS (es.map (·.1))).map .str)] = S3 ++ [.lst [], .lst [], .lst ((es.map (·.1)).map .str), .lst ((sortS (es.map (·.1))).map .str)] := by simp
  have l6 : (S3 ++ [Cel.lst [], .lst [], .lst ((es.map (·.1)).map .str)]).length = S3.length + 3 := by simp
  have e5 : ev (run tb G (n + 6)) G (.blt .sorted (.cons (.lc [("one", 7)] (.nm 7) (.e (.var 0)) .none (.blt .str (.cons (.ix (.var 7) (.cst (.int 0))) .nil))) .nil)) [some (.ref e), some (.ref v), some (.ref S.length), some (.ref (S.length + 1)), some (.ref (S3.length + 1)), some (.ref S3.length), none, none] (S3 ++ [.lst [], .lst []]) =
      .ok (.ref (S3.length + 3)) (S3 ++ [.lst [], .lst [], .lst ((es.map (·.1)).map .str), .lst ((sortS (es.map (·.1))).map .str)]) := by
    refine e_blt (es_cons e4 es_nil) ?_
    rw [bl_sortedS st_2 (by rw [List.length_map]; omega), a6, l6]
  have hnl : (sortS (es.map (·.1))).length ≤ 29 := by rw [sortS_len, List.length_map]; exact hl
  have hname : ∀ x ∈ sortS (es.map (·.1)), x.length ≤ 8 := fun x hx => by
    obtain ⟨y, hy, rfl⟩ := List.mem_map.mp (mem_sortS.mp hx)
    exact (hok y hy).1
  generalize hN : sortS (es.map (·.1)) = names at e5 hnl hname
  have g7 : ∀ l, (S3 ++ l)[S.length]? = some (.lst (es.map entD)) := fun l => st_old g1
  refine w_for (fun i ρ S' => ∃ o6, ρ = [some (.ref e), some (.ref v), some (.ref S.length), some (.ref (S.length + 1)), some (.ref (S3.length + 1)), some (.ref S3.length), o6, none] ∧ Fx S3 S' ∧ S'[S3.length]? = some (.lst ((dd (names.take i)).map .str)) ∧ S'[S3.length + 1]? = some (.lst (((dd (names.take i)).map (row es)).map .str)) ∧ S'[S3.length + 3]? = some (.lst (names.map .str)))
    (i_e e5 (wk_lst (by rw [st_k]; rfl))) ⟨none, rfl, Fx.app _ _, st_0, st_1, by rw [st_k]; rfl⟩ (fun i ρ S' _ hI => ?_) (fun i x ρ S' hx hI => ?_) (fun ρ S' hI => ?_)
  · obtain ⟨_, _, _, _, _, h⟩ := hI
    exact h
  · obtain ⟨o6, rfl, F, ht, hx4, hnm⟩ := hI
    rw [List.getElem?_map] at hx
    cases hq : names[i]? with
    | none => rw [hq] at hx; cases hx
    | some x =>
      rw [hq] at hx
      cases hx
      refine ⟨_, _, a_nm, ?_⟩
      show wO (exB _ _ _ [some (.ref e), some (.ref v), some (.ref S.length), some (.ref (S.length + 1)), some (.ref (S3.length + 1)), some (.ref S3.length), some (.str x), none] S') _
      have hnext : dd (names.take (i + 1)) = addN (dd (names.take i)) x := by rw [List.take_add_one, hq]; exact dd_snoc _ _
      have hdl : (dd (names.take i)).length ≤ 29 := by
        have := dd_len (names.take i)
        rw [List.length_take] at this
        omega
      by_cases hin : x ∈ dd (names.take i)
      · refine w_skip (t_cmp (e_var rfl) (e_var rfl) (by rw [not_in ht, decide_eq_true hin]; rfl)) (w_nil (w_go ⟨_, rfl, F, ?_, ?_, hnm⟩))
        · rw [hnext, addN, if_pos hin]
          exact ht
        · rw [hnext, addN, if_pos hin]
          exact hx4
      · refine w_ite (k := true) (t_cmp (e_var rfl) (e_var rfl) (by rw [not_in ht, decide_eq_false hin]; rfl)) (fun _ => ?_) (fun z => nomatch z)
        refine w_ex (e_mth (e_var rfl) (my_append ht) (es_cons (e_var rfl) es_nil) (mt_append ht (by rw [List.length_map]; show _ < 16777216; omega))) ?_
        -- the numbers of this name
        have lt := st_lt ht
        have lx := st_lt hx4
        have ln := st_lt hnm
        have F1 : Fx S3 (S'.set S3.length (.lst ((dd (names.take i)).map .str ++ [.str x]))) := F.set (Nat.le_refl _)
        have ge1 := F1.get ge
        have hx1 : (S'.set S3.length (.lst ((dd (names.take i)).map .str ++ [.str x])))[S3.length + 1]? = some (.lst (((dd (names.take i)).map (row es)).map .str)) := by rw [List.getElem?_set_ne (by omega)]; exact hx4
        have hn1 : (S'.set S3.length (.lst ((dd (names.take i)).map .str ++ [.str x])))[S3.length + 3]? = some (.lst (names.map .str)) := by rw [List.getElem?_set_ne (by omega)]; exact hnm
        have ht1 : (S'.set S3.length (.lst ((dd (names.take i)).map .str ++ [.str x])))[S3.length]? = some (.lst ((dd (names.take i)).map .str ++ [.str x])) := List.getElem?_set_self lt
        generalize S'.set S3.length (.lst ((dd (names.take i)).map .str ++ [.str x])) = S4 at F1 ge1 hx1 hn1 ht1
        have e7 := e_lc_filter (cl := run tb G (n + 6)) (gv := G) (own := [("one", 7)]) (g := .nm 7) (it := .e (.var 0)) (t := .cmp .Eq (.ix (.var 7) (.cst (.int 0))) (.var 6)) (e := .ix (.var 7) (.cst (.int 1)))
          (ρ := [some (.ref e), some (.ref v), some (.ref S.length), some (.ref (S.length + 1)), some (.ref (S3.length + 1)), some (.ref S3.length), some (.str x), none]) (S := S4) (isN x) numF (i_e (e_var rfl) (wk_lst ge1)) ge1 (by rw [List.length_map]; show _ ≤ 16777216; omega) (fun z hz => by
            obtain ⟨y, hm, rfl⟩ := List.mem_map.mp hz
            exact ⟨_, a_nm, t_cmp (e_ix (e_var rfl) e_cst (ix_tup rfl)) (e_var rfl) rfl, fun _ => e_ix (e_var rfl) e_cst (ix_tup rfl)⟩)
        rw [grp_map] at e7
        have hgl := grp_len es x
        obtain ⟨d8, S8, h8, rfl, F8⟩ := stretched_ok (n + 5) (S := S4 ++ [.lst ((grp es x).map .int)]) (m := S4.length) (ns := grp es x) st_0 (by omega) (grp_ok hok x)
        have F48 : Fx S4 S8 := (Fx.app _ _).trans F8
        have hxl := hname x (List.mem_of_getElem? hq)
        refine w_ex (e_mth (e_var rfl) (my_append hx1) (es_cons (e_bin (e_bin (e_var rfl) e_cst (row_cat hok hl hxl _).1) (e_call (es_cons e7 es_nil) h8) (row_cat hok hl hxl _).2) es_nil) (mt_append (F48.get hx1) ?_)) (w_nil (w_nil (w_go ⟨_, rfl, ?_, ?_, ?_, ?_⟩)))
        · rw [List.length_map, List.length_map]
          show _ < 16777216
          omega
        · exact (F1.trans F48).set (by omega)
        · rw [List.getElem?_set_ne (by omega), F48.get ht1, hnext, addN, if_neg hin, List.map_append]
          rfl
        · rw [List.getElem?_set_self (st_lt (F48.get hx1)), hnext, addN, if_neg hin, List.map_append, List.map_append]
          rfl
        · rw [List.getElem?_set_ne (by omega)]
          exact F48.get hn1
  · obtain ⟨o6, rfl, F, ht, hx4, hnm⟩ := hI
    rw [List.length_map, List.take_length] at ht hx4
    have hdl : (dd names).length ≤ 29 := by
      have := dd_len names
      omega
    obtain ⟨d9, S9, h9, rfl, F9⟩ := index_ok (n + 3) (S := S') (r := S.length) (v := S.length + 1) (es := es) (va := va) (F.get g1) (F.get g2) hl hok
    rw [hN] at h9
    obtain ⟨d10, S10, h10, rfl, F10⟩ := law_flow_ok (n + 5) (S := S9) (t := S3.length + 1) (v := v) (ts := (dd names).map (row es)) (va := va) (F9.get hx4) (F9.get (F.get gv')) (by rw [List.length_map]; omega)
    have p2 : Pl 5 (flowD ((dd names).map (row es)) va) := pl_flow va (by rw [List.length_map]; show _ ≤ 16777216; omega)
    have F11 := F.trans (F9.trans F10)
    refine w_skip (t_nt (t_tr (e_call (es_cons (e_call (es_cons (e_var rfl) (es_cons (e_var rfl) es_nil)) h9) (es_cons (e_call (es_cons (e_var rfl) (es_cons (e_var rfl) es_nil)) h10) es_nil)) (same_pl p2 n S10)) rfl)) ?_
    have hs := same_lst (k := 1) (F11.get g1) (F11.get ge) (fun x hx => by
      obtain ⟨y, _, rfl⟩ := List.mem_map.mp hx
      exact pl_ent y) (by rw [List.length_map]; show es.length ≤ 16777216; omega) (n + 3)
    have hs : run tb G (n + 6) 9 [.ref S.length, .ref e] S10 = .ok (.bl true) S10 := hs
    refine w_ret (e_bo (eb_and_t (e_call (es_cons (e_var rfl) (es_cons (e_var rfl) es_nil)) hs) (eb_one (e_cmp (e_var rfl) (e_var rfl) (eq_dct (F11.get g2) (F11.get gv')))))) ⟨_, _, rfl, rfl, F0.trans F11⟩
theorem cut_half (es : List Ent) : cutD (es.map entD) none (some ((es.length : Int) / 2)) = (es.take (es.length / 2)).map entD := by
  unfold cutD
  rw [HT.sIx_none, show ((es.length : Int) / 2) = ((es.length / 2 : Nat) : Int) by omega, HT.sIx_nat, List.length_map, List.drop_zero, Nat.sub_zero, Nat.min_eq_left (by omega), List.map_take]
theorem law_ok (n : Nat) (ns : List Int) : ∃ d S', run tb G (n + 8) 16 [.rol (ns.map .int)] [] = .ok d S' ∧ d = .bl true := by
  refine r_w (fn := ⟨1, 3, c_law⟩) rfl rfl ?_
  show wO (exB _ _ c_law [some (.rol (ns.map .int)), none, none] []) _
  unfold c_law
  obtain ⟨d1, S1, h1, rfl, c1, rfl, P1⟩ := pool_ok (n + 6) (S := []) (xs := ns) (at_ := 0) (by decide)
  obtain ⟨d2, S2, h2, r, es, rfl, ge, hl, hok⟩ := entries_ok (n + 4) P1
  have h1 : run tb G (n + 7) 7 [.rol (ns.map .int), .int 0] [] = .ok (.ref (List.length ([] : Sto))) ([] ++ [c1]) := h1
  refine w_asg (e_call (es_cons (e_call (es_cons (e_var rfl) (es_cons e_cst es_nil)) h1) es_nil) h2) a_nm ?_
  obtain ⟨d3, S3, h3, rfl, c3, rfl, P3⟩ := pool_ok (n + 6) (S := S2) (xs := ns) (at_ := 1) (by decide)
  obtain ⟨d4, S4, h4, v, va, rfl, gv4, F4⟩ := values_ok (n + 5) P3
  have h3 : run tb G (n + 7) 7 [.rol (ns.map .int), .int 1] S2 = .ok (.ref S2.length) (S2 ++ [c3]) := h3
  refine w_asg (e_call (es_cons (e_call (es_cons (e_var rfl) (es_cons e_cst es_nil)) h3) es_nil) h4) a_nm ?_
  have ge4 : S4[r]? = some (.lst (es.map entD)) := F4.get (st_old ge) (by have := st_lt ge; omega)
  show wO (exB _ _ _ [some (.rol (ns.map .int)), some (.ref r), some (.ref v)] S4) _
  obtain ⟨d5, S5, h5, rfl, F5⟩ := flows_ok n ge4 gv4 hl hok
  have hsl : slop (.ref r) none (some ((es.length : Int) / 2)) S5 = .ok (.ref S5.length) (S5 ++ [.lst ((es.take (es.length / 2)).map entD)]) := by
    unfold slop
    simp only [F5.get ge4]
    rw [cut_half]
    rfl
  obtain ⟨d6, S6, h6, rfl, F6⟩ := flows_ok n (S := S5 ++ [.lst ((es.take (es.length / 2)).map entD)]) (e := S5.length) (es := es.take (es.length / 2)) st_0 (st_old (F5.get gv4)) (by rw [List.length_take]; omega) (fun x hx => hok x (List.mem_of_mem_take hx))
  have hlen : bltop .len [.ref r] S5 = .ok (.int (es.length : Int)) S5 := by rw [bl_len_l (F5.get ge4), List.length_map]
  refine w_skip (t_bo (tb_or_f (t_nt (t_tr (e_call (es_cons (e_var rfl) (es_cons (e_var rfl) es_nil)) h5) rfl))
    (tb_one (t_nt (t_tr (e_call (es_cons (e_sl (e_var rfl) e_po0 (e_po1 (e_bin (e_blt (es_cons (e_var rfl) es_nil) hlen) e_cst (bi_div (by decide)))) hsl) (es_cons (e_var rfl) es_nil)) h6) rfl))))) ?_
  have gv6 := F6.get (st_old (l := [.lst ((es.take (es.length / 2)).map entD)]) (F5.get gv4))
  obtain ⟨d7, S7, h7, rfl, F7⟩ := flows_ok n (S := S6 ++ [.lst []]) (e := S6.length) (es := []) (va := va) st_0 (st_old gv6) (by decide) (fun _ z => nomatch z)
  exact w_ret (e_call (es_cons (e_lst es_nil) (es_cons (e_var rfl) es_nil)) h7) ⟨_, _, rfl, rfl⟩
theorem goal : ∀ ns : List Int, ns.length ≤ 63 → ∃ S', run tb (gvOf cs) 40 16 [.rol (ns.map .int)] [] = .ok (.bl true) S' := by
  intro ns _
  obtain ⟨d, S', h, rfl⟩ := law_ok 32 ns
  exact ⟨S', h⟩
end K74

set_option Elab.async false
set_option linter.all false
set_option maxRecDepth 100000
set_option maxHeartbeats 0
/-! the end of the law: printed by gen.py -/
open PySem PySem.W PySem.Calls PyProof.Rows
theorem PySem.Challenge.cw_pagestyles_k74_contents_and_index_as_flo_holds : PySem.Challenge.rw_pagestyles_k74_contents_and_index_as_flo.Holds := by
  w_on; o_law
  refine HandSHeadRun.head_any (r := OpenLaw.row PySem.Challenge.rw_pagestyles_k74_contents_and_index_as_flo) (q := view (OpenLaw.row PySem.Challenge.rw_pagestyles_k74_contents_and_index_as_flo).prog [20]) (H := Vm.hkOf K74.dl K74.cs) (ob := Vm.obOf K74.dl K74.cs) (M := 4000) (loose := K74.names) (d := HandSHeadRun.topDef (OpenLaw.row PySem.Challenge.rw_pagestyles_k74_contents_and_index_as_flo).prog 20) (kwd := []) (Vm.obOf_eq _ _)
    (by kernel_rfl) (fun s => by kernel_rfl) K74.run0 (by kernel_rfl) (by kernel_rfl) (by kernel_rfl) (by rfl) (by first | assumption | decide +kernel) (by decide +kernel) ⟨rfl, rfl, rfl, rfl, rfl, by decide +kernel⟩ ?hw ?hc
  case hw => w_witness2
  case hc =>
    exact Vm.walk (l := PySem.Challenge.rw_pagestyles_k74_contents_and_index_as_flo) (ds := K74.dl) (cs := K74.cs) 40 (n := 63) (i := 16) (x := "script") (di := K74.d_law) rfl (by decide) (by kernel_rfl) ⟨rfl, by decide, by decide⟩ K74.allC rfl (by kernel_rfl) rfl K74.goal
