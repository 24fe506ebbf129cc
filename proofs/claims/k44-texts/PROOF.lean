import PyProof.Rows.All
import Wide.All
import OpenK.AllK
import Wide.FinOn
import HandS.ForMost
import HandS.Lambda
import HandS.Conv
import HandS.TupAny
import HandS.TupMul
import PyProof.StrOps2
import HandS.Style
import HandS.Steps
import HandS.SortInts
import HandS.SetFor
import HandS.IsInst
import HandS.Iter
import HandS.Zip
import KE.GoesMore
import HandS.Comp
import HandS.ExcField
import HandS.Star
import HandS.ExcOwn
import HandS.ExcInit
import HandS.ExcSuper
import KE.KExcSuper
import KE.KSuper
import HandS.WordsExc
import HandS.Words
import HandS.ExcIs
import KE.KExcIs
import HandS.HeadWalk
import HandS.EndTab
import HandS.HeadHook4
import HandS.Head2
import HandS.HeadEnd
import PySem.Challenge.RW_parkback_k44_texts_refused
set_option Elab.async false
set_option linter.all false
/-! Pi: an interpreter over plain data for the part of Python that the laws use. -/
namespace Pi
open PySem L2

/-! ### data, the store -/
inductive D where
  | non | bl (b : Bool) | int (i : Int) | str (x : Str) | tup (ds : List D) | rol (ds : List D) | obj (n : Nat) | fn (x : Str) | cls (x : Str) | ty (n : String) | exn
deriving Inhabited
inductive Ob where
  | lst (ds : List D)
  | rng (lo : Int) (n : Nat)
deriving Inhabited
abbrev Sto := List Ob
abbrev Env := List (Option D)
/-- an exception of an own class: its fields -/
structure Ex where
  cls : Str
  fs : Option (List (Str × V))
inductive Res (α : Type) where
  | ok (a : α) (S : Sto) | er (e : Ex) (S : Sto) | no
def Res.bind {α β : Type} : Res α → (α → Sto → Res β) → Res β
  | .ok a S, k => k a S
  | .er e S, _ => .er e S
  | .no, _ => .no
/-- no error may leave -/
def Res.calm {α : Type} : Res α → Res α
  | .er _ _ => .no
  | r => r

def D.ofV : V → D
  | .non => .non | .bl b => .bl b | .int i => .int i | .str x => .str x | .ty n => .ty n | _ => .exn
def D.flat : D → Option V
  | .non => some .non | .bl b => some (.bl b) | .int i => some (.int i) | .str x => some (.str x) | _ => none
def optAll {α : Type} : List (Option α) → Option (List α)
  | [] => some []
  | some a :: r => (optAll r).map (a :: ·)
  | none :: _ => none
def toPy : Nat → Sto → D → Option PyData
  | 0, _, _ => none
  | n + 1, S, d => match d with
    | .non => some .none
    | .bl b => some (.bool b)
    | .int i => some (.int i)
    | .str x => some (.str x)
    | .tup ds => (optAll (ds.map (toPy n S))).map .tuple
    | .rol ds => (optAll (ds.map (toPy n S))).map .list
    | .obj k => (match S[k]? with
      | some (.lst ds) => (optAll (ds.map (toPy n S))).map .list
      | _ => none)
    | _ => none
def eqD (S : Sto) (x y : D) : Option Bool := match toPy 66 S x, toPy 66 S y with
  | some d, some e => if (SeqAt.shaped d && SeqAt.shaped e) = true then some (PyData.eqv d e) else none
  | _, _ => none
/-- what a list or tuple holds -/
def seqOf (S : Sto) : D → Option (List D)
  | .tup ds => some ds
  | .rol ds => some ds
  | .obj n => (match S[n]? with
    | some (.lst ds) => some ds
    | _ => none)
  | _ => none
def lstOf (S : Sto) : D → Option (List D)
  | .rol ds => some ds
  | .obj n => (match S[n]? with
    | some (.lst ds) => some ds
    | _ => none)
  | _ => none
def intsOf : List D → Option (List Int)
  | [] => some []
  | .int i :: r => (intsOf r).map (i :: ·)
  | _ :: _ => none
def blsOf : List D → Option (List Bool)
  | [] => some []
  | .bl i :: r => (blsOf r).map (i :: ·)
  | _ :: _ => none
def strsOf : List D → Option (List Str)
  | [] => some []
  | .str i :: r => (strsOf r).map (i :: ·)
  | _ :: _ => none
def new (o : Ob) (S : Sto) : Res D := .ok (.obj S.length) (S ++ [o])
def newL (ds : List D) (S : Sto) : Res D := if ds.length ≤ sizeLine then new (.lst ds) S else .no
def ok1 (d : D) (S : Sto) : Res D := .ok d S
def okO (o : Option D) (S : Sto) : Res D := match o with
  | some d => .ok d S
  | none => .no
def okB (o : Option Bool) (S : Sto) : Res D := match o with
  | some b => .ok (.bl b) S
  | none => .no

/-! ### operators -/
def mulOk (i j : Int) : Bool := (decide (-(2 ^ 64) < i) && decide (i < 2 ^ 64)) || (decide (-(2 ^ 64) < j) && decide (j < 2 ^ 64))
def binop (op : Operator) (x y : D) (S : Sto) : Res D := match op with
  | .Add => (match x, y with
    | .int i, .int j => .ok (.int (i + j)) S
    | .str a, .str b => if a.length + b.length ≤ sizeLine then .ok (.str (a ++ b)) S else .no
    | .tup a, .tup b => if a.length + b.length ≤ sizeLine then .ok (.tup (a ++ b)) S else .no
    | .obj a, .obj b => (match S[a]?, S[b]? with
      | some (.lst xs), some (.lst ys) => if xs.length + ys.length ≤ sizeLine then new (.lst (xs ++ ys)) S else .no
      | _, _ => .no)
    | _, _ => .no)
  | .Sub => (match x, y with
    | .int i, .int j => .ok (.int (i - j)) S
    | _, _ => .no)
  | .Mult => (match x, y with
    | .int i, .int j => if mulOk i j then .ok (.int (i * j)) S else .no
    | .obj a, .int k => (match S[a]? with
      | some (.lst xs) => if (decide (-(2 ^ 63) ≤ k) && decide (k < 2 ^ 63) && decide (xs.length * k.toNat ≤ sizeLine)) = true then new (.lst (List.replicate k.toNat xs).flatten) S else .no
      | _ => .no)
    | .str z, .int k => if (decide (2 ≤ k) && decide (k ≤ 1000) && decide (0 < z.length) && decide (z.length ≤ 1000)) = true then .ok (.str ⟨(List.replicate k.toNat z.cps.toList).flatten.toArray⟩) S else .no
    | .tup xs, .int k => if (!xs.isEmpty && decide (2 ≤ k) && decide (k ≤ 1000) && decide (xs.length ≤ 1000)) = true then .ok (.tup (List.replicate k.toNat xs).flatten) S else .no
    | _, _ => .no)
  | .FloorDiv => (match x, y with
    | .int i, .int j => if (decide (0 < j) && decide (j < 1073741824)) = true then .ok (.int (i / j)) S else .no
    | _, _ => .no)
  | .Mod => (match x, y with
    | .int i, .int j => if 0 < j then .ok (.int (i % j)) S else .no
    | _, _ => .no)
  | .Pow => (match x, y with
    | .int i, .int j => if (decide (0 ≤ j) && decide (j ≤ 1000000) && decide (i.natAbs < 2 ^ 64)) = true then .ok (.int (i ^ j.toNat)) S else .no
    | _, _ => .no)
  | _ => .no
def allFlat (ds : List D) : Option (List V) := optAll (ds.map D.flat)
def inD (S : Sto) (x y : D) : Option Bool := match y with
  | .str z => (match x with
    | .str c => (match c.cps.toList with
      | [k] => some (decide (k ∈ z.cps.toList))
      | _ => none)
    | _ => none)
  | _ => (match x.flat, (seqOf S y).bind allFlat with
    | some v, some vs => some (inV v vs)
    | _, _ => none)
def cmpop (op : CmpOp) (x y : D) (S : Sto) : Option Bool := match op with
  | .Eq => eqD S x y
  | .NotEq => (eqD S x y).map (!·)
  | .Lt => (match x, y with
    | .int i, .int j => some (decide (i < j))
    | _, _ => none)
  | .LtE => (match x, y with
    | .int i, .int j => some (decide (i ≤ j))
    | _, _ => none)
  | .Gt => (match x, y with
    | .int i, .int j => some (decide (j < i))
    | _, _ => none)
  | .GtE => (match x, y with
    | .int i, .int j => some (decide (j ≤ i))
    | _, _ => none)
  | .Is => (match y with
    | .non => (match x with | .non => some true | _ => some false)
    | _ => none)
  | .IsNot => (match y with
    | .non => (match x with | .non => some false | _ => some true)
    | _ => none)
  | .In => inD S x y
  | .NotIn => (inD S x y).map (!·)
def ixD (S : Sto) (x : D) (i : D) : Res D := match i with
  | .int k => (match x with
    | .str z => if z.length ≤ sizeLine then okO ((atI z.cps.toList k).map fun c => .str ⟨#[c]⟩) S else .no
    | _ => okO ((seqOf S x).bind fun ds => atI ds k) S)
  | _ => .no
def cutL {α : Type} (xs : List α) (lo hi : Option Int) : List α := (xs.drop (HT.sIx xs.length 0 lo)).take (HT.sIx xs.length xs.length hi - HT.sIx xs.length 0 lo)
def cutD (S : Sto) (x : D) (lo hi : Option Int) : Res D := match x with
  | .tup ds => .ok (.tup (cutL ds lo hi)) S
  | .str z => if z.length ≤ sizeLine then .ok (.str (cutS z lo hi)) S else .no
  | _ => (match lstOf S x with
    | some ds => new (.lst (cutL ds lo hi)) S
    | none => .no)
/-! ### sorting -/
def ins {α : Type} (le : α → α → Bool) (a : α) : List α → List α
  | [] => [a]
  | b :: r => if le a b then a :: b :: r else b :: ins le a r
def isort {α : Type} (le : α → α → Bool) : List α → List α
  | [] => []
  | a :: r => ins le a (isort le r)
/-! ### built-ins -/
def isTy (S : Sto) (d : D) (n : String) : Option Bool :=
  let t : Option String := match d with
    | .non => some "NoneType" | .bl _ => some "bool" | .int _ => some "int" | .str _ => some "str" | .tup _ => some "tuple" | .rol _ => some "list"
    | .obj k => (match S[k]? with
      | some (.lst _) => some "list"
      | _ => none)
    | _ => none
  if ["int", "bool", "str", "tuple", "list"].contains n then t.map fun t => t == n || (t == "bool" && n == "int") else none
def maxL : List Int → Option Int
  | [] => none
  | [a] => some a
  | a :: r => (maxL r).map fun b => if b > a then b else a
def minL : List Int → Option Int
  | [] => none
  | [a] => some a
  | a :: r => (minL r).map fun b => if b < a then b else a
def bLen (args : List D) (S : Sto) : Res D := match args with
  | [.str z] => if z.length ≤ sizeLine then .ok (.int z.length) S else .no
  | [x] => okO ((seqOf S x).map fun ds => .int ds.length) S
  | _ => .no
def bInt (args : List D) (S : Sto) : Res D := match args with
  | [.int i] => .ok (.int i) S
  | [.bl b] => .ok (.int (if b then 1 else 0)) S
  | [.str a] => (match intText? a with
    | some n => if a.length ≤ 640 then .ok (.int n) S else .no
    | none => .no)
  | _ => .no
def bStr (args : List D) (S : Sto) : Res D := match args with
  | [.int i] => if i.natAbs.log2 < 1920 then .ok (.str (toString i)) S else .no
  | _ => .no
def bAbs (args : List D) (S : Sto) : Res D := match args with
  | [.int i] => .ok (.int (if i < 0 then -i else i)) S
  | _ => .no
def bMax (args : List D) (S : Sto) : Res D := match args with
  | [.int i, .int j] => .ok (.int (if j > i then j else i)) S
  | [x] => okO (((lstOf S x).bind intsOf).bind maxL |>.map .int) S
  | _ => .no
def bMin (args : List D) (S : Sto) : Res D := match args with
  | [.int i, .int j] => .ok (.int (if j < i then j else i)) S
  | [x] => okO (((lstOf S x).bind intsOf).bind minL |>.map .int) S
  | _ => .no
def bSum (args : List D) (S : Sto) : Res D := match args with
  | [x] => okO (((lstOf S x).bind intsOf).map fun ns => .int ns.sum) S
  | _ => .no
def bAll (args : List D) (S : Sto) : Res D := match args with
  | [x] => okO (((lstOf S x).bind blsOf).map fun bs => .bl (bs.all id)) S
  | _ => .no
def bAny (args : List D) (S : Sto) : Res D := match args with
  | [x] => okO (((lstOf S x).bind blsOf).map fun bs => .bl (bs.any id)) S
  | _ => .no
def bList (args : List D) (S : Sto) : Res D := match args with
  | [x] => (match seqOf S x with
    | some ds => new (.lst ds) S
    | none => .no)
  | _ => .no
def bTuple (args : List D) (S : Sto) : Res D := match args with
  | [.tup ds] => .ok (.tup ds) S
  | [x] => okO ((lstOf S x).map .tup) S
  | _ => .no
def bSorted (args : List D) (S : Sto) : Res D := match args with
  | [x] => (match (lstOf S x).bind intsOf with
    | some ns => new (.lst ((isort (fun a b => decide (a ≤ b)) ns).map .int)) S
    | none => .no)
  | _ => .no
def bIsi (args : List D) (S : Sto) : Res D := match args with
  | [x, .ty n] => okB (isTy S x n) S
  | _ => .no
/-- calm: no exception is in hand -/
def bltn (calm : Bool) (f : Str) (args : List D) (S : Sto) : Res D :=
  if f = "len" then bLen args S
  else if f = "int" then bInt args S
  else if f = "str" then bStr args S
  else if f = "isinstance" then bIsi args S
  else if f = "list" then bList args S
  else if f = "tuple" then bTuple args S
  else if f = "abs" then bAbs args S
  else if f = "sorted" then bSorted args S
  else if calm = false then .no
  else if f = "max" then bMax args S
  else if f = "min" then bMin args S
  else if f = "sum" then bSum args S
  else if f = "all" then bAll args S
  else if f = "any" then bAny args S
  else .no
def findIx {α : Type} (p : α → Bool) : List α → Option Nat
  | [] => none
  | a :: r => if p a then some 0 else (findIx p r).map (· + 1)
def joinOk (a : Str) (ys : List Str) : Bool := decide ((ys.map (·.length)).sum + ys.length * a.length ≤ 16777216)
def mAppend (x : D) (args : List D) (S : Sto) : Res D := match x, args with
  | .obj k, [y] => (match S[k]? with
    | some (.lst ds) => if ds.length < sizeLine then .ok .non (S.set k (.lst (ds ++ [y]))) else .no
    | _ => .no)
  | _, _ => .no
def mPop (x : D) (args : List D) (S : Sto) : Res D := match x, args with
  | .obj k, [] => (match S[k]? with
    | some (.lst ds) => (match ds[ds.length - 1]? with
      | some y => .ok y (S.set k (.lst ds.dropLast))
      | none => .no)
    | _ => .no)
  | .obj k, [.int i] => (match S[k]? with
    | some (.lst ds) => if (decide (-(2 ^ 63) ≤ i) && decide (i < 2 ^ 63)) = true then (match seqIndex? i ds.length with
      | some j => (match ds[j]? with
        | some y => .ok y (S.set k (.lst (ds.eraseIdx j)))
        | none => .no)
      | none => .no) else .no
    | _ => .no)
  | _, _ => .no
def mIndex (x : D) (args : List D) (S : Sto) : Res D := match args with
  | [y] => (match (lstOf S x).bind allFlat, y.flat with
    | some vs, some v => okO ((findIx (fun z => eqV z v) vs).map fun j => .int (j : Nat)) S
    | _, _ => .no)
  | _ => .no
def mCount (x : D) (args : List D) (S : Sto) : Res D := match args with
  | [y] => (match (lstOf S x).bind allFlat, y.flat with
    | some vs, some v => .ok (.int (vs.countP fun z => eqV z v : Nat)) S
    | _, _ => .no)
  | _ => .no
def mSplit (x : D) (args : List D) (S : Sto) : Res D := match x, args with
  | .str a, [.str b] => if (!(b.length == 0) && decide (a.length + 2 ≤ sizeLine)) = true then new (.lst ((Txt.split a b).map .str)) S else .no
  | _, _ => .no
def mJoin (x : D) (args : List D) (S : Sto) : Res D := match x, args with
  | .str a, [y] => (match (seqOf S y).bind strsOf with
    | some ys => if joinOk a ys then .ok (.str (Txt.join a ys)) S else .no
    | none => .no)
  | _, _ => .no
/-- a receiver's type, of those that have methods here -/
def recv (S : Sto) (x : D) : Option String := match x with
  | .str _ => some "str"
  | _ => (lstOf S x).map fun _ => "list"
def meth (m : Str) (x : D) (args : List D) (S : Sto) : Res D :=
  if m = "append" then mAppend x args S
  else if m = "pop" then mPop x args S
  else if m = "index" then mIndex x args S
  else if m = "count" then mCount x args S
  else if m = "split" then mSplit x args S
  else if m = "join" then mJoin x args S
  else .no
/-- a method's own name -/
def mtId (m : Str) (T : String) : Option String :=
  if T = "list" then (if m = "append" then some "list.append" else if m = "pop" then some "list.pop" else if m = "index" then some "list.index" else if m = "count" then some "list.count" else none)
  else if T = "str" then (if m = "split" then some "str.split" else if m = "join" then some "str.join" else none)
  else none
def setIx (S : Sto) (x i y : D) : Res Unit := match x, i with
  | .obj k, .int j => (match S[k]? with
    | some (.lst ds) => (match ixN ds.length j with
      | some n => .ok () (S.set k (.lst (ds.set n y)))
      | none => .no)
    | _ => .no)
  | _, _ => .no
end Pi

set_option Elab.async false
set_option linter.all false
namespace Pi
open PySem L2

/-- what stands fixed: the written part, the module's names, the exception in hand -/
structure Bd where
  K : PySem.W.Frag
  mg : Str → Option Value
  T : List (Addr × Str)
  hand : Option Addr
  xds : List (Addr × List (Str × V))

/-- a list that nobody writes -/
def RoL (K : PySem.W.Frag) (H : Hp) (a : Addr) (xs : List V) : Prop :=
  (∃ o, H a = some (.frz o (.lst xs))) ∨
    ∃ (o : Obj) (its : Array Value) (n : Nat), K.lookup a = some o ∧ o.cls = .type "list" ∧ o.dict = none ∧ o.data = .seq its n ∧ its.size ≤ sizeLine ∧ Vals xs its.toList
theorem RoL.sq {K : PySem.W.Frag} {H : Hp} {a : Addr} {xs : List V} (h : RoL K H a xs) : SqL K H a xs := h.elim (fun h => .inl (.inr h)) .inr

mutual
inductive Rep (B : Bd) (m : List Addr) (H : Hp) : V → D → Prop
  | non : Rep B m H .non .non
  | bl (b : Bool) : Rep B m H (.bl b) (.bl b)
  | int (i : Int) : Rep B m H (.int i) (.int i)
  | str (x : Str) : Rep B m H (.str x) (.str x)
  | tup {a : Addr} {xs : List V} {ds : List D} : SqT B.K H a xs → Reps B m H xs ds → Rep B m H (.ref a) (.tup ds)
  | rol {a : Addr} {xs : List V} {ds : List D} : RoL B.K H a xs → Reps B m H xs ds → Rep B m H (.ref a) (.rol ds)
  | obj {n : Nat} {a : Addr} : m[n]? = some a → Rep B m H (.ref a) (.obj n)
  | fn {x : Str} {f : Addr} : B.mg x = some (.ref f) → Rep B m H (.ref f) (.fn x)
  | cls {x : Str} {f : Addr} : B.mg x = some (.ref f) → Rep B m H (.ref f) (.cls x)
  | ty (n : String) : Rep B m H (.ty n) (.ty n)
  | exn {a : Addr} : B.hand = some a → Rep B m H (.ref a) .exn
inductive Reps (B : Bd) (m : List Addr) (H : Hp) : List V → List D → Prop
  | nil : Reps B m H [] []
  | cons {v : V} {vs : List V} {d : D} {ds : List D} : Rep B m H v d → Reps B m H vs ds → Reps B m H (v :: vs) (d :: ds)
end

def ORep (B : Bd) (m : List Addr) (H : Hp) (a : Addr) : Ob → Prop
  | .lst ds => ∃ vs, H a = some (.lst vs) ∧ Reps B m H vs ds
  | .rng lo n => H a = some (.rng lo (lo + n)) ∧ RgOk lo (lo + n)
structure Rel (B : Bd) (m : List Addr) (H : Hp) (S : Sto) : Prop where
  len : m.length = S.length
  nd : m.Nodup
  ob : ∀ (n : Nat) (a : Addr) (o : Ob), m[n]? = some a → S[n]? = some o → ORep B m H a o
  tb : LamX.Tabs B.T H
  xd : ∀ p ∈ B.xds, H p.1 = some (.xd p.2)
structure Ext (m : List Addr) (H : Hp) (m' : List Addr) (H' : Hp) : Prop where
  pre : m <+: m'
  keep : ∀ a o, a ∉ m → H a = some o → (∀ ps, o ≠ .tbl ps) → H' a = some o
  out : ∀ a o, a ∉ m → H a = some o → (∀ ps, o ≠ .tbl ps) → a ∉ m'
  lst : ∀ a, a ∈ m → (∃ vs, H a = some (.lst vs)) → ∃ vs, H' a = some (.lst vs)

theorem nodup_getElem? {m : List Addr} (nd : m.Nodup) {i j : Nat} {a : Addr} (h1 : m[i]? = some a) (h2 : m[j]? = some a) : i = j := by
  obtain ⟨h1, e1⟩ := List.getElem?_eq_some_iff.mp h1
  obtain ⟨h2, e2⟩ := List.getElem?_eq_some_iff.mp h2
  exact (List.getElem_inj nd).mp (e1.trans e2.symm)
section
variable {B : Bd} {m m' m1 m2 : List Addr} {H H' H1 H2 : Hp} {S S' : Sto}
theorem Ext.refl : Ext m H m H := ⟨List.prefix_rfl, fun _ _ _ h _ => h, fun _ _ h _ _ => h, fun _ _ h => h⟩
theorem Ext.trans (a : Ext m H m1 H1) (b : Ext m1 H1 m2 H2) : Ext m H m2 H2 where
  pre := a.pre.trans b.pre
  keep := fun x o hx h n => b.keep x o (a.out x o hx h n) (a.keep x o hx h n) n
  out := fun x o hx h n => b.out x o (a.out x o hx h n) (a.keep x o hx h n) n
  lst := fun x hx h => b.lst x (a.pre.subset hx) (a.lst x hx h)
theorem Ext.get (e : Ext m H m' H') {n : Nat} {a : Addr} (h : m[n]? = some a) : m'[n]? = some a := by
  obtain ⟨t, rfl⟩ := e.pre
  obtain ⟨hn, _⟩ := List.getElem?_eq_some_iff.mp h
  rw [List.getElem?_append_left hn]
  exact h

theorem Rel.at (r : Rel B m H S) {n : Nat} {o : Ob} (h : S[n]? = some o) : ∃ a, m[n]? = some a ∧ ORep B m H a o := by
  obtain ⟨hn, _⟩ := List.getElem?_eq_some_iff.mp h
  have hn' : n < m.length := by rw [r.len]; exact hn
  exact ⟨m[n], List.getElem?_eq_getElem hn', r.ob n _ o (List.getElem?_eq_getElem hn') h⟩
/-- a tracked object's kind -/
theorem Rel.kind (r : Rel B m H S) {a : Addr} (h : a ∈ m) : (∃ vs, H a = some (.lst vs)) ∨ ∃ i j, H a = some (.rng i j) := by
  obtain ⟨n, hn, e⟩ := List.mem_iff_getElem.mp h
  have hs : n < S.length := by rw [← r.len]; exact hn
  have q := r.ob n a S[n] (by rw [List.getElem?_eq_getElem hn, e]) (List.getElem?_eq_getElem hs)
  cases k : S[n] with
  | lst ds =>
    rw [k] at q
    obtain ⟨vs, q, _⟩ := q
    exact .inl ⟨vs, q⟩
  | rng lo n =>
    rw [k] at q
    exact .inr ⟨_, _, q.1⟩
theorem Rel.tupOut (r : Rel B m H S) {a : Addr} {xs : List V} (h : H a = some (.tup xs)) : a ∉ m := fun q => by
  rcases r.kind q with ⟨_, z⟩ | ⟨_, _, z⟩ <;> rw [h] at z <;> cases z
theorem Rel.frzOut (r : Rel B m H S) {a : Addr} {o : Obj} {u : HO} (h : H a = some (.frz o u)) : a ∉ m := fun q => by
  rcases r.kind q with ⟨_, z⟩ | ⟨_, _, z⟩ <;> rw [h] at z <;> cases z
theorem Rel.sqt (r : Rel B m H S) (e : Ext m H m' H') {a : Addr} {xs : List V} (h : SqT B.K H a xs) : SqT B.K H' a xs := by
  rcases h with (h | ⟨o, h⟩) | h
  · exact .inl (.inl (e.keep _ _ (r.tupOut h) h fun ps z => by cases z))
  · exact .inl (.inr ⟨o, e.keep _ _ (r.frzOut h) h fun ps z => by cases z⟩)
  · exact .inr h
theorem Rel.rol (r : Rel B m H S) (e : Ext m H m' H') {a : Addr} {xs : List V} (h : RoL B.K H a xs) : RoL B.K H' a xs := by
  rcases h with ⟨o, h⟩ | h
  · exact .inl ⟨o, e.keep _ _ (r.frzOut h) h fun ps z => by cases z⟩
  · exact .inr h
mutual
theorem Rep.ext (r : Rel B m H S) (e : Ext m H m' H') : ∀ {d : D} {v : V}, Rep B m H v d → Rep B m' H' v d
  | .non, _, .non => .non
  | .bl b, _, .bl _ => .bl b
  | .int i, _, .int _ => .int i
  | .str x, _, .str _ => .str x
  | .tup ds, _, .tup h hs => .tup (r.sqt e h) (Reps.ext r e hs)
  | .rol ds, _, .rol h hs => .rol (r.rol e h) (Reps.ext r e hs)
  | .obj n, _, .obj h => .obj (e.get h)
  | .fn x, _, .fn h => .fn h
  | .cls x, _, .cls h => .cls h
  | .ty n, _, .ty _ => .ty n
  | .exn, _, .exn h => .exn h
theorem Reps.ext (r : Rel B m H S) (e : Ext m H m' H') : ∀ {ds : List D} {vs : List V}, Reps B m H vs ds → Reps B m' H' vs ds
  | [], _, .nil => .nil
  | _ :: _, _, .cons h hs => .cons (Rep.ext r e h) (Reps.ext r e hs)
end
theorem Reps.length : ∀ {ds : List D} {vs : List V}, Reps B m H vs ds → vs.length = ds.length
  | [], _, .nil => rfl
  | _ :: _, _, .cons _ hs => by rw [List.length_cons, List.length_cons, Reps.length hs]
theorem Reps.get : ∀ {ds : List D} {vs : List V} {i : Nat} {d : D}, Reps B m H vs ds → ds[i]? = some d → ∃ v, vs[i]? = some v ∧ Rep B m H v d
  | [], _, _, _, .nil, h => by simp at h
  | _ :: _, _, 0, _, .cons h _, e => by simp at e; subst e; exact ⟨_, rfl, h⟩
  | _ :: ds, _, i + 1, d, .cons _ hs, e => by
    obtain ⟨v, h1, h2⟩ := Reps.get (i := i) (d := d) hs (by simpa using e)
    exact ⟨v, by simpa using h1, h2⟩
theorem Reps.getV : ∀ {ds : List D} {vs : List V} {i : Nat} {v : V}, Reps B m H vs ds → vs[i]? = some v → ∃ d, ds[i]? = some d ∧ Rep B m H v d
  | [], _, _, _, .nil, h => by simp at h
  | _ :: _, _, 0, _, .cons h _, e => by simp at e; subst e; exact ⟨_, rfl, h⟩
  | _ :: ds, _, i + 1, d, .cons _ hs, e => by
    obtain ⟨v, h1, h2⟩ := Reps.getV (i := i) (v := d) hs (by simpa using e)
    exact ⟨v, by simpa using h1, h2⟩
theorem Reps.append : ∀ {ds es : List D} {vs ws : List V}, Reps B m H vs ds → Reps B m H ws es → Reps B m H (vs ++ ws) (ds ++ es)
  | [], _, _, _, .nil, h => h
  | _ :: _, _, _, _, .cons h hs, k => .cons h (Reps.append hs k)
theorem Reps.set {v : V} {d : D} (r : Rep B m H v d) : ∀ {ds : List D} {vs : List V} (i : Nat), Reps B m H vs ds → Reps B m H (vs.set i v) (ds.set i d)
  | [], _, _, .nil => .nil
  | _ :: _, _, 0, .cons _ hs => .cons r hs
  | _ :: _, _, i + 1, .cons h hs => .cons h (Reps.set r i hs)
theorem Reps.take : ∀ {ds : List D} {vs : List V} (n : Nat), Reps B m H vs ds → Reps B m H (vs.take n) (ds.take n)
  | _, _, 0, _ => by simpa using Reps.nil
  | [], _, _ + 1, .nil => .nil
  | _ :: _, _, n + 1, .cons h hs => .cons h (Reps.take n hs)
theorem Reps.drop : ∀ {ds : List D} {vs : List V} (n : Nat), Reps B m H vs ds → Reps B m H (vs.drop n) (ds.drop n)
  | _, _, 0, h => h
  | [], _, _ + 1, .nil => .nil
  | _ :: _, _, n + 1, .cons _ hs => Reps.drop n hs
theorem Reps.dropLast {ds : List D} {vs : List V} (h : Reps B m H vs ds) : Reps B m H vs.dropLast ds.dropLast := by
  rw [List.dropLast_eq_take, List.dropLast_eq_take, h.length]
  exact h.take _
theorem Reps.eraseIdx : ∀ {ds : List D} {vs : List V} (i : Nat), Reps B m H vs ds → Reps B m H (vs.eraseIdx i) (ds.eraseIdx i)
  | [], _, _, .nil => .nil
  | _ :: _, _, 0, .cons _ hs => hs
  | _ :: _, _, i + 1, .cons h hs => .cons h (Reps.eraseIdx i hs)
theorem Reps.rep {ds : List D} {vs : List V} (h : Reps B m H vs ds) : ∀ k : Nat, Reps B m H (List.replicate k vs).flatten (List.replicate k ds).flatten
  | 0 => by simpa using Reps.nil
  | k + 1 => by
    rw [List.replicate_succ, List.replicate_succ, List.flatten_cons, List.flatten_cons]
    exact h.append (Reps.rep h k)
theorem Reps.cut {ds : List D} {vs : List V} (h : Reps B m H vs ds) (lo hi : Option Int) : Reps B m H (cutV vs lo hi) (cutL ds lo hi) := by
  unfold cutV cutL
  rw [h.length]
  exact (h.drop _).take _
theorem Reps.reverse : ∀ {ds : List D} {vs : List V}, Reps B m H vs ds → Reps B m H vs.reverse ds.reverse
  | [], _, .nil => .nil
  | _ :: _, _, .cons h hs => by
    rw [List.reverse_cons, List.reverse_cons]
    exact (Reps.reverse hs).append (.cons h .nil)
theorem Reps.ints : ∀ (ns : List Int), Reps B m H (ns.map V.int) (ns.map D.int)
  | [] => .nil
  | _ :: r => .cons (.int _) (Reps.ints r)
theorem Reps.strs : ∀ (ns : List Str), Reps B m H (ns.map V.str) (ns.map D.str)
  | [] => .nil
  | _ :: r => .cons (.str _) (Reps.strs r)
theorem Reps.toInts : ∀ {ds : List D} {vs : List V} {ns : List Int}, Reps B m H vs ds → intsOf ds = some ns → vs = ns.map V.int
  | [], _, ns, .nil, e => by cases e; rfl
  | d :: ds, _, ns, .cons h hs, e => by
    cases h with
    | int i =>
      simp only [intsOf] at e
      cases q : intsOf ds with
      | none => rw [q] at e; cases e
      | some r =>
        rw [q] at e
        cases e
        rw [Reps.toInts hs q]
        rfl
    | _ => simp [intsOf] at e
theorem Reps.toBls : ∀ {ds : List D} {vs : List V} {ns : List Bool}, Reps B m H vs ds → blsOf ds = some ns → vs = ns.map V.bl
  | [], _, ns, .nil, e => by cases e; rfl
  | d :: ds, _, ns, .cons h hs, e => by
    cases h with
    | bl i =>
      simp only [blsOf] at e
      cases q : blsOf ds with
      | none => rw [q] at e; cases e
      | some r =>
        rw [q] at e
        cases e
        rw [Reps.toBls hs q]
        rfl
    | _ => simp [blsOf] at e
theorem Reps.toStrs : ∀ {ds : List D} {vs : List V} {ns : List Str}, Reps B m H vs ds → strsOf ds = some ns → vs = ns.map V.str
  | [], _, ns, .nil, e => by cases e; rfl
  | d :: ds, _, ns, .cons h hs, e => by
    cases h with
    | str i =>
      simp only [strsOf] at e
      cases q : strsOf ds with
      | none => rw [q] at e; cases e
      | some r =>
        rw [q] at e
        cases e
        rw [Reps.toStrs hs q]
        rfl
    | _ => simp [strsOf] at e
theorem Rep.toFlat {d : D} {v w : V} (h : Rep B m H v d) (e : d.flat = some w) : v = w ∧ flatV w = true := by
  cases h <;> simp only [D.flat] at e <;> first | (cases e; exact ⟨rfl, rfl⟩) | cases e
theorem Reps.toFlat : ∀ {ds : List D} {vs ws : List V}, Reps B m H vs ds → allFlat ds = some ws → vs = ws ∧ ws.all flatV = true
  | [], _, _, .nil, e => by cases e; exact ⟨rfl, rfl⟩
  | d :: ds, _, ws, .cons h hs, e => by
    unfold allFlat at e
    rw [List.map_cons] at e
    cases q : d.flat with
    | none => rw [q] at e; cases e
    | some w =>
      rw [q] at e
      simp only [optAll] at e
      cases q2 : optAll (ds.map D.flat) with
      | none => rw [q2] at e; cases e
      | some r =>
        rw [q2] at e
        cases e
        obtain ⟨e1, e2⟩ := h.toFlat q
        obtain ⟨e3, e4⟩ := Reps.toFlat hs q2
        subst e1 e3
        exact ⟨rfl, by rw [List.all_cons, e2, e4]; rfl⟩

/-! ### the heap grows, an object changes -/
theorem Tabs.grow {T : List (Addr × Str)} {H : Hp} {p : Addr} {o : HO} (t : LamX.Tabs T H) (hp : H p = none) : LamX.Tabs T (upd H p o) := t.ext fun b u e => by
  rw [upd_ne (ne_of_none e hp)]
  exact e
/-- a new thing, not tracked -/
theorem Ext.new {p : Addr} {o : HO} (hp : H p = none) : Ext m H m (upd H p o) := ⟨List.prefix_rfl, fun a u _ h _ => by
  rw [upd_ne (ne_of_none h hp)]
  exact h, fun _ _ h _ _ => h, fun a _ ⟨vs, h⟩ => ⟨vs, by
  rw [upd_ne (ne_of_none h hp)]
  exact h⟩⟩
theorem ORep.ext (r : Rel B m H S) (e : Ext m H m' H') {a : Addr} {o : Ob} (h : ORep B m H a o) (ha : H' a = H a) : ORep B m' H' a o := by
  cases o with
  | lst ds =>
    obtain ⟨vs, h1, h2⟩ := h
    exact ⟨vs, by rw [ha]; exact h1, h2.ext r e⟩
  | rng lo n => exact ⟨by rw [ha]; exact h.1, h.2⟩
theorem Rel.ne (r : Rel B m H S) {p : Addr} (hp : H p = none) {a : Addr} (ha : a ∈ m) : a ≠ p := fun z => by
  rcases r.kind ha with ⟨_, q⟩ | ⟨_, _, q⟩ <;> rw [z, hp] at q <;> cases q
theorem Rel.new0 (r : Rel B m H S) {p : Addr} {o : HO} (hp : H p = none) : Rel B m (upd H p o) S :=
  ⟨r.len, r.nd, fun n a ob h1 h2 => (r.ob n a ob h1 h2).ext r (Ext.new hp) (upd_ne (r.ne hp (List.mem_of_getElem? h1))), Tabs.grow r.tb hp, fun q hq => by
    have e := r.xd q hq
    rw [upd_ne (ne_of_none e hp)]
    exact e⟩
/-- a new tracked object -/
theorem Ext.add {p : Addr} {o : HO} (hp : H p = none) : Ext m H (m ++ [p]) (upd H p o) where
  pre := List.prefix_append _ _
  keep := fun a u _ h _ => by
    rw [upd_ne (ne_of_none h hp)]
    exact h
  out := fun a u h1 h2 _ h3 => by
    rcases List.mem_append.mp h3 with z | z
    · exact h1 z
    · rw [List.mem_singleton.mp z, hp] at h2
      cases h2
  lst := fun a _ ⟨vs, h⟩ => ⟨vs, by
    rw [upd_ne (ne_of_none h hp)]
    exact h⟩
theorem Rel.add (r : Rel B m H S) {p : Addr} {o : HO} {ob : Ob} (hp : H p = none) (h : ORep B (m ++ [p]) (upd H p o) p ob) : Rel B (m ++ [p]) (upd H p o) (S ++ [ob]) := by
  refine ⟨by simp [r.len], ?_, fun n a u h1 h2 => ?_, Tabs.grow r.tb hp, fun q hq => by
    have e := r.xd q hq
    rw [upd_ne (ne_of_none e hp)]
    exact e⟩
  · rw [List.nodup_append]
    exact ⟨r.nd, by simp, fun a ha b hb z => r.ne hp ha (z.trans (List.mem_singleton.mp hb))⟩
  · by_cases hn : n < m.length
    · rw [List.getElem?_append_left hn] at h1
      rw [List.getElem?_append_left (by rw [← r.len]; exact hn)] at h2
      exact (r.ob n a u h1 h2).ext r (Ext.add hp) (upd_ne (r.ne hp (List.mem_of_getElem? h1)))
    · rw [List.getElem?_append_right (by omega)] at h1
      rw [List.getElem?_append_right (by rw [← r.len]; omega), ← r.len] at h2
      cases k : n - m.length with
      | zero =>
        rw [k] at h1 h2
        cases h1
        cases h2
        exact h
      | succ j =>
        rw [k] at h1
        simp at h1
theorem Rep.last {p : Addr} (r : Rel B m H S) : (m ++ [p])[S.length]? = some p := by
  rw [← r.len, List.getElem?_append_right (Nat.le_refl _)]
  simp
/-- a tracked list is written -/
theorem Ext.set {a : Addr} {ws : List V} (ha : a ∈ m) : Ext m H m (upd H a (.lst ws)) := ⟨List.prefix_rfl, fun b u hb h _ => by
  rw [upd_ne (fun z => hb (by rw [z]; exact ha))]
  exact h, fun _ _ h _ _ => h, fun b _ ⟨vs, h⟩ => by
  by_cases hb : b = a
  · exact ⟨ws, by rw [hb, upd_same]⟩
  · exact ⟨vs, by rw [upd_ne hb]; exact h⟩⟩
theorem Rel.set (r : Rel B m H S) {n : Nat} {a : Addr} {vs : List V} {ds : List D} {o : Ob} (ha : m[n]? = some a) (hn : S[n]? = some o) (hv : Reps B m H vs ds) : Rel B m (upd H a (.lst vs)) (S.set n (.lst ds)) := by
  have am : a ∈ m := List.mem_of_getElem? ha
  refine ⟨by rw [List.length_set]; exact r.len, r.nd, fun k b u h1 h2 => ?_, ?_, fun q hq => by
    have e := r.xd q hq
    rw [upd_ne]
    · exact e
    · intro z
      rcases r.kind am with ⟨w, z2⟩ | ⟨i, j, z2⟩ <;> rw [z] at e <;> rw [e] at z2 <;> cases z2⟩
  · by_cases hk : k = n
    · subst hk
      rw [ha] at h1
      cases h1
      have hl := (List.getElem?_eq_some_iff.mp hn).1
      rw [List.getElem?_set_self hl] at h2
      cases h2
      exact ⟨vs, upd_same, hv.ext r (Ext.set am)⟩
    · rw [List.getElem?_set_ne (Ne.symm hk)] at h2
      refine (r.ob k b u h1 h2).ext r (Ext.set am) (upd_ne fun z => hk ?_)
      subst z
      exact nodup_getElem? r.nd h1 ha
  · intro q hq
    obtain ⟨ps, h1, h2, h3⟩ := r.tb q hq
    have nt : ∀ {b : Addr} {u : HO}, H b = some u → (∀ vs, u ≠ .lst vs) → (∀ i j, u ≠ .rng i j) → upd H a (.lst vs) b = some u := fun {b u} e n1 n2 => by
      rw [upd_ne]
      · exact e
      · rintro rfl
        rcases r.kind am with ⟨w, z⟩ | ⟨i, j, z⟩
        · rw [e] at z
          exact n1 w (Option.some.inj z)
        · rw [e] at z
          exact n2 i j (Option.some.inj z)
    refine ⟨ps, nt h1 (fun _ z => by cases z) (fun _ _ z => by cases z), h2, fun pos cv hc => ?_⟩
    obtain ⟨c, e1, e2⟩ := h3 pos cv hc
    exact ⟨c, e1, nt e2 (fun _ z => by unfold LamX.CodeO at z; cases z) (fun _ _ z => by unfold LamX.CodeO at z; cases z)⟩
end
end Pi

set_option Elab.async false
set_option linter.all false
set_option maxHeartbeats 1000000
namespace Pi
open PySem L2

/-- how an error of ours lies -/
def ERep (B : Bd) (H : Hp) (cls : Value) (dd : Option Addr) (e : Ex) : Prop :=
  ∃ C : Addr, B.mg e.cls = some (.ref C) ∧ cls = .ref C ∧ match e.fs with
    | none => dd = none
    | some fs => ∃ a, dd = some a ∧ H a = some (.xd fs)
abbrev WXH := Value → Option Addr → Hp → Prop
/-- what is wanted behind an answer -/
def PostE {α β : Type} (B : Bd) (R : List Addr → Hp → β → α → Prop) (r : Res α) (m : List Addr) (H : Hp) (Q : β → Hp → Prop) (W : WXH) : Prop := match r with
  | .ok a S' => ∀ m' H' b, Ext m H m' H' → Rel B m' H' S' → R m' H' b a → Q b H'
  | .er e S' => ∀ m' H' cls dd, Ext m H m' H' → Rel B m' H' S' → ERep B H' cls dd e → W cls dd H'
  | .no => False
section
variable {α β γ δ : Type} {B : Bd} {R : List Addr → Hp → β → α → Prop} {R2 : List Addr → Hp → δ → γ → Prop} {r : Res α} {k : α → Sto → Res γ} {m m1 : List Addr} {H H1 : Hp} {W W' : WXH}
theorem PostE.ext {Q : β → Hp → Prop} (h : PostE B R r m H Q W) (e : Ext m H m1 H1) : PostE B R r m1 H1 Q W := by
  cases r with
  | ok a S => exact fun m' H' b e' => h m' H' b (e.trans e')
  | er x S => exact fun m' H' cls dd e' => h m' H' cls dd (e.trans e')
  | no => exact h
theorem PostE.bind {Q : δ → Hp → Prop} (h : PostE B R2 (r.bind k) m H Q W) :
    PostE B R r m H (fun b H1 => ∃ m1 S1 a, Ext m H m1 H1 ∧ Rel B m1 H1 S1 ∧ R m1 H1 b a ∧ PostE B R2 (k a S1) m1 H1 Q W) W := by
  cases r with
  | ok a S => exact fun m' H' b e rel rr => ⟨m', S, a, e, rel, rr, PostE.ext (show PostE B R2 (k a S) m H Q W from h) e⟩
  | er x S => exact h
  | no => exact h
theorem PostE.mono {Q Q' : β → Hp → Prop} (h : PostE B R r m H Q W) (hq : ∀ b H', Q b H' → Q' b H') (hw : ∀ c d H', W c d H' → W' c d H') : PostE B R r m H Q' W' := by
  cases r with
  | ok a S => exact fun m' H' b e rel rr => hq _ _ (h m' H' b e rel rr)
  | er x S => exact fun m' H' cls dd e rel rr => hw _ _ _ (h m' H' cls dd e rel rr)
  | no => exact h
end
abbrev NoW : WXH := fun _ _ _ => False

/-- the context and what stands fixed -/
structure Is (X : Cx) (B : Bd) : Prop where
  K : X.K = B.K
  mg : X.mg = B.mg
  un : X.A.units + 200 < cLine

section
variable {X : Cx} {B : Bd}
def rB (B : Bd) (W : WXH) (op : Operator) : R2 := fun x y H Q => ∃ m S d e, Rel B m H S ∧ Rep B m H x d ∧ Rep B m H y e ∧ PostE B (Rep B) (binop op d e S) m H Q W
theorem rep_new {m : List Addr} {H : Hp} {S : Sto} {p : Addr} (rel : Rel B m H S) {vs : List V} {ds : List D} (hr : Reps B m H vs ds) (hp : H p = none) {Q : VK} {W : WXH}
    (h : PostE B (Rep B) (new (.lst ds) S) m H Q W) : Q (.ref p) (upd H p (.lst vs)) :=
  h (m ++ [p]) _ _ (Ext.add hp) (rel.add hp ⟨vs, upd_same, hr.ext rel (Ext.add hp)⟩) (.obj (Rep.last rel))
theorem foldl_repA (xs : List Nat) : ∀ (k : Nat) (acc : List Nat), List.foldl (fun x1 x2 => x1 ++ x2) acc.toArray (List.replicate k xs.toArray) = (acc ++ (List.replicate k xs).flatten).toArray
  | 0, acc => by simp
  | k + 1, acc => by
    have e : acc.toArray ++ xs.toArray = (acc ++ xs).toArray := by simp
    have e2 : (acc ++ xs) ++ (List.replicate k xs).flatten = acc ++ (List.replicate (k + 1) xs).flatten := by
      rw [List.replicate_succ, List.flatten_cons, List.append_assoc]
    rw [← e2, ← foldl_repA xs k (acc ++ xs), ← e, List.replicate_succ, List.foldl_cons]
theorem op_repS : OpR X (binaryOp .Mult) (fun x y H Q => ∃ (z : Str) (k : Int), x = .str z ∧ y = .int k ∧ 2 ≤ k ∧ k ≤ 1000 ∧ 0 < z.length ∧ z.length ≤ 1000 ∧ Q (.str ⟨(List.replicate k.toNat z.cps.toList).flatten.toArray⟩) H) := by
  intro pins s σ H x y v u Q I rx ry h
  obtain ⟨z, k, rfl, rfl, h1, h2, h3, h4, q⟩ := h
  obtain ⟨t, rfl⟩ := rx
  obtain ⟨t', rfl⟩ := ry
  have hk : k = (k.toNat : Int) := by omega
  have hk2 : k.toNat ≤ 1000 := by omega
  have hm : z.length * k.toNat ≤ 1000000 := Nat.le_trans (Nat.mul_le_mul h4 hk2) (by decide)
  have e0 : List.foldl (fun x1 x2 => x1 ++ x2) #[] (List.replicate k.toNat z.cps) = (List.replicate k.toNat z.cps.toList).flatten.toArray := by
    have := foldl_repA z.cps.toList k.toNat []
    simpa using this
  refine PySem.P.mul_str ?_ (fun _ _ => ?_) (fun _ _ => ?_) ?_
  · have e1 : decide (k < -(2 ^ 63 : Int)) = false := decide_eq_false (by omega)
    have e2 : decide (k ≥ 2 ^ 63) = false := decide_eq_false (by omega)
    rw [e1, e2]; rfl
  · have : (1000 : Int) ≤ (2 ^ 63 - 1) / k := by
      rw [Int.le_ediv_iff_mul_le (by omega)]
      omega
    omega
  · unfold Builtin.Str.tooLong
    have := sizeLine_eq
    simp only [decide_eq_false_iff_not]
    omega
  · rw [if_neg (by omega)]
    have e3 : (k == 1 || z.length == 0) = false := by
      have a1 : (k == 1) = false := beq_eq_false_iff_ne.mpr (by omega)
      have a2 : (z.length == 0) = false := beq_eq_false_iff_ne.mpr (by omega)
      rw [a1, a2]; rfl
    rw [e3, if_neg Bool.false_ne_true, e0]
    refine ⟨?_, ⟨.str _, H, I.tok _, ⟨_, rfl⟩, q⟩⟩
    have : (List.replicate k.toNat z.cps.toList).flatten.length ≤ 1000000 := by
      rw [List.length_flatten, List.map_replicate, List.sum_replicate_nat, Array.length_toList, Nat.mul_comm]
      exact hm
    have := sizeLine_eq
    show (List.replicate k.toNat z.cps.toList).flatten.toArray.size ≤ sizeLine
    rw [List.size_toArray]
    omega
theorem op_rB {op : Operator} {W : WXH} (hX : Is X B) : OpR X (binaryOp op) (rB B W op) := by
  intro pins s σ H x y v u Q I rx ry h
  obtain ⟨m, S, d, e, rel, rd, re, hp⟩ := h
  cases op with
  | Add =>
    cases rd with
    | int i =>
      cases re with
      | int j => exact op_add pins s σ H _ _ v u Q I rx ry ⟨i, j, rfl, rfl, hp m H _ Ext.refl rel (.int _)⟩
      | _ => exact hp.elim
    | str i =>
      cases re with
      | str j =>
        dsimp only [binop] at hp
        split at hp
        · rename_i hl
          exact op_add_str pins s σ H _ _ v u Q I rx ry ⟨i, j, rfl, rfl, hl, hp m H _ Ext.refl rel (.str _)⟩
        · exact hp.elim
      | _ => exact hp.elim
    | @tup a xs ds hs hr =>
      cases re with
      | @tup b ys es ht hr' =>
        dsimp only [binop] at hp
        split at hp
        · rename_i hl
          rw [← hr.length, ← hr'.length] at hl
          rw [← hX.K] at hs ht
          refine op_catA pins s σ H _ _ v u Q I rx ry ⟨a, b, xs, ys, rfl, rfl, hs, ht, hl, ?_⟩
          rw [hX.K] at hs ht
          refine ⟨fun e1 => ?_, fun _ e1 => ?_, fun e1 e2 p hn => ?_⟩
          · subst e1
            have e2 : ds = [] := List.eq_nil_of_length_eq_zero hr.length.symm
            subst e2
            exact hp m H _ Ext.refl rel (.tup ht hr')
          · show _
            subst e1
            have e2 : es = [] := List.eq_nil_of_length_eq_zero hr'.length.symm
            subst e2
            rw [List.append_nil] at hp
            exact hp m H _ Ext.refl rel (.tup hs hr)
          · exact hp m _ _ (Ext.new hn) (rel.new0 hn) (.tup (.of upd_same) ((hr.append hr').ext rel (Ext.new hn)))
        · exact hp.elim
      | _ => exact hp.elim
    | @obj n a ha =>
      cases re with
      | @obj k b hb =>
        dsimp only [binop] at hp
        split at hp
        · rename_i xs ys h1 h2
          split at hp
          · rename_i hl
            obtain ⟨vs, q1, r1⟩ := rel.ob _ _ _ ha h1
            obtain ⟨ws, q2, r2⟩ := rel.ob _ _ _ hb h2
            rw [← r1.length, ← r2.length] at hl
            exact op_cat pins s σ H _ _ v u Q I rx ry ⟨a, b, vs, ws, rfl, rfl, q1, q2, hl, fun p hn => rep_new rel (r1.append r2) hn hp⟩
          · exact hp.elim
        · exact hp.elim
      | _ => exact hp.elim
    | _ => exact hp.elim
  | Sub =>
    cases rd with
    | int i =>
      cases re with
      | int j => exact op_sub pins s σ H _ _ v u Q I rx ry ⟨i, j, rfl, rfl, hp m H _ Ext.refl rel (.int _)⟩
      | _ => exact hp.elim
    | _ => exact hp.elim
  | Mult =>
    cases rd with
    | int i =>
      cases re with
      | int j =>
        dsimp only [binop] at hp
        split at hp
        · rename_i hl
          refine op_mul pins s σ H _ _ v u Q I rx ry ⟨i, j, rfl, rfl, ?_, hp m H _ Ext.refl rel (.int _)⟩
          unfold mulOk at hl
          simpa [CMul] using hl
        · exact hp.elim
      | _ => exact hp.elim
    | str z =>
      cases re with
      | int k =>
        dsimp only [binop] at hp
        split at hp
        · rename_i hl
          simp only [Bool.and_eq_true, decide_eq_true_eq] at hl
          exact op_repS pins s σ H _ _ v u Q I rx ry ⟨z, k, rfl, rfl, hl.1.1.1, hl.1.1.2, hl.1.2, hl.2, hp m H _ Ext.refl rel (.str _)⟩
        · exact hp.elim
      | _ => exact hp.elim
    | @tup a xs ds hs hr =>
      cases re with
      | int k =>
        dsimp only [binop] at hp
        split at hp
        · rename_i hl
          simp only [Bool.and_eq_true, Bool.not_eq_true', decide_eq_true_eq] at hl
          obtain ⟨⟨⟨h1, h2⟩, h3⟩, h4⟩ := hl
          rw [← hr.length] at h4
          have hne : xs ≠ [] := fun z => by
            subst z
            have e2 : ds = [] := List.eq_nil_of_length_eq_zero hr.length.symm
            subst e2
            cases h1
          rw [← hX.K] at hs
          exact op_repT pins s σ H _ _ v u Q I rx ry ⟨a, k, xs, rfl, rfl, hs, hne, h2, h3, h4, fun p hn => hp m _ _ (Ext.new hn) (rel.new0 hn) (.tup (.of upd_same) ((hr.rep _).ext rel (Ext.new hn)))⟩
        · exact hp.elim
      | _ => exact hp.elim
    | @obj n a ha =>
      cases re with
      | int k =>
        dsimp only [binop] at hp
        split at hp
        · rename_i xs h1
          split at hp
          · rename_i hl
            simp only [Bool.and_eq_true, decide_eq_true_eq] at hl
            obtain ⟨⟨h2, h3⟩, h4⟩ := hl
            obtain ⟨vs, q1, r1⟩ := rel.ob _ _ _ ha h1
            rw [← r1.length] at h4
            exact op_rep pins s σ H _ _ v u Q I rx ry ⟨a, k, vs, rfl, rfl, q1, h2, h3, h4, fun p hn => rep_new rel (r1.rep _) hn hp⟩
          · exact hp.elim
        · exact hp.elim
      | _ => exact hp.elim
    | _ => exact hp.elim
  | FloorDiv =>
    cases rd with
    | int i =>
      cases re with
      | int j =>
        dsimp only [binop] at hp
        split at hp
        · rename_i hl
          simp only [Bool.and_eq_true, decide_eq_true_eq] at hl
          exact op_fdiv pins s σ H _ _ v u Q I rx ry ⟨i, j, rfl, rfl, hl, hp m H _ Ext.refl rel (.int _)⟩
        · exact hp.elim
      | _ => exact hp.elim
    | _ => exact hp.elim
  | Mod =>
    cases rd with
    | int i =>
      cases re with
      | int j =>
        dsimp only [binop] at hp
        split at hp
        · rename_i hl
          exact op_mod pins s σ H _ _ v u Q I rx ry ⟨i, j, rfl, rfl, hl, hp m H _ Ext.refl rel (.int _)⟩
        · exact hp.elim
      | _ => exact hp.elim
    | _ => exact hp.elim
  | Pow =>
    cases rd with
    | int i =>
      cases re with
      | int j =>
        dsimp only [binop] at hp
        split at hp
        · rename_i hl
          simp only [Bool.and_eq_true, decide_eq_true_eq] at hl
          exact op_pow pins s σ H _ _ v u Q I rx ry ⟨i, j, rfl, rfl, ⟨hl.1.1, hl.1.2, hl.2⟩, hp m H _ Ext.refl rel (.int _)⟩
        · exact hp.elim
      | _ => exact hp.elim
    | _ => exact hp.elim
  | _ => exact hp.elim
end
end Pi

set_option Elab.async false
set_option linter.all false
set_option maxHeartbeats 1000000
namespace Pi
open PySem L2 PyProof.Rows
section
variable {X : Cx} {B : Bd}

theorem Rep.seq {m : List Addr} {H : Hp} {S : Sto} {v : V} {d : D} {ds : List D} (rel : Rel B m H S) (r : Rep B m H v d) (h : seqOf S d = some ds) : ∃ p vs, v = .ref p ∧ (SqL B.K H p vs ∨ SqT B.K H p vs) ∧ Reps B m H vs ds := by
  cases r with
  | tup hs hr => cases h; exact ⟨_, _, rfl, .inr hs, hr⟩
  | rol hs hr => cases h; exact ⟨_, _, rfl, .inl hs.sq, hr⟩
  | @obj n a ha =>
    dsimp only [seqOf] at h
    split at h
    · rename_i e
      cases h
      obtain ⟨vs, q1, r1⟩ := rel.ob _ _ _ ha e
      exact ⟨a, vs, rfl, .inl (.of q1), r1⟩
    · cases h
  | _ => cases h
theorem Rep.lst {m : List Addr} {H : Hp} {S : Sto} {v : V} {d : D} {ds : List D} (rel : Rel B m H S) (r : Rep B m H v d) (h : lstOf S d = some ds) : ∃ p vs, v = .ref p ∧ SqL B.K H p vs ∧ Reps B m H vs ds := by
  cases r with
  | rol hs hr => cases h; exact ⟨_, _, rfl, hs.sq, hr⟩
  | @obj n a ha =>
    dsimp only [lstOf] at h
    split at h
    · rename_i e
      cases h
      obtain ⟨vs, q1, r1⟩ := rel.ob _ _ _ ha e
      exact ⟨a, vs, rfl, .of q1, r1⟩
    · cases h
  | _ => cases h
theorem Rep.objLst {m : List Addr} {H : Hp} {S : Sto} {k : Nat} {v : V} {ds : List D} (rel : Rel B m H S) (r : Rep B m H v (.obj k)) (h : S[k]? = some (.lst ds)) : ∃ p vs, v = .ref p ∧ m[k]? = some p ∧ H p = some (.lst vs) ∧ Reps B m H vs ds := by
  cases r with
  | @obj n a ha =>
    obtain ⟨vs, q1, r1⟩ := rel.ob _ _ _ ha h
    exact ⟨a, vs, rfl, ha, q1, r1⟩

/-! ### as data -/
mutual
theorem Rep.py {m : List Addr} {H : Hp} {S : Sto} (rel : Rel B m H S) : ∀ (n : Nat) {v : V} {d : D} {p : PyData}, Rep B m H v d → toPy n S d = some p → Dp B.K H v p
  | 0, _, _, _, _, h => by cases h
  | n + 1, v, d, p, r, h => by
    cases r with
    | non => cases h; exact .non
    | bl b => cases h; exact .bl b
    | int i => cases h; exact .int i
    | str x => cases h; exact .str x
    | tup hs hr =>
      dsimp only [toPy] at h
      obtain ⟨ps, h1, rfl⟩ := Option.map_eq_some_iff.mp h
      exact .tup hs (Reps.py rel n hr h1)
    | rol hs hr =>
      dsimp only [toPy] at h
      obtain ⟨ps, h1, rfl⟩ := Option.map_eq_some_iff.mp h
      exact .lst hs.sq (Reps.py rel n hr h1)
    | @obj k a ha =>
      dsimp only [toPy] at h
      split at h
      · rename_i e
        obtain ⟨ps, h1, rfl⟩ := Option.map_eq_some_iff.mp h
        obtain ⟨vs, q1, r1⟩ := rel.ob _ _ _ ha e
        exact .lst (.of q1) (Reps.py rel n r1 h1)
      · cases h
    | _ => cases h
theorem Reps.py {m : List Addr} {H : Hp} {S : Sto} (rel : Rel B m H S) : ∀ (n : Nat) {vs : List V} {ds : List D} {ps : List PyData}, Reps B m H vs ds → optAll (ds.map (toPy n S)) = some ps → DpAll B.K H vs ps
  | n, _, _, ps, .nil, h => by cases h; exact .nil
  | n, _, d :: ds, ps, .cons r rs, h => by
    rw [List.map_cons] at h
    cases q : toPy n S d with
    | none => rw [q] at h; cases h
    | some p =>
      rw [q] at h
      dsimp only [optAll] at h
      obtain ⟨qs, h1, rfl⟩ := Option.map_eq_some_iff.mp h
      exact .cons (Rep.py rel n r q) (Reps.py rel n rs h1)
end
def rC (B : Bd) (op : CmpOp) : R2 := fun x y H Q => ∃ m S d e b, Rel B m H S ∧ Rep B m H x d ∧ Rep B m H y e ∧ cmpop op d e S = some b ∧ Q (.bl b) H
theorem op_rC {op : CmpOp} (hX : Is X B) : OpR X (compareOp op) (rC B op) := by
  have hu : X.A.units + 64 < cLine := Nat.lt_of_le_of_lt (Nat.add_le_add_left (by decide) _) hX.un
  intro pins s σ H x y v u Q I rx ry h
  obtain ⟨m, S, d, e, b, rel, rd, re, hc, q⟩ := h
  have eqs : ∀ b, eqD S d e = some b → ∃ p q, Dp X.K H x p ∧ Dp X.K H y q ∧ SeqAt.shaped p = true ∧ SeqAt.shaped q = true ∧ b = PyData.eqv p q := fun b hb => by
    unfold eqD at hb
    split at hb
    · rename_i p q h1 h2
      split at hb
      · rename_i hs
        rw [Bool.and_eq_true] at hs
        cases hb
        rw [hX.K]
        exact ⟨p, q, rd.py rel _ h1, re.py rel _ h2, hs.1, hs.2, rfl⟩
      · cases hb
    · cases hb
  have ins : ∀ b, inD S d e = some b → (∃ p xs, y = .ref p ∧ (SqL X.K H p xs ∨ SqT X.K H p xs) ∧ flatV x = true ∧ xs.all flatV = true ∧ b = inV x xs) ∨ ∃ (c : Nat) (z : Str), x = .str ⟨#[c]⟩ ∧ y = .str z ∧ b = decide (c ∈ z.cps.toList) := fun b hb => by
    unfold inD at hb
    split at hb
    · cases re
      split at hb
      · rename_i c
        cases rd
        split at hb
        · rename_i k hk
          cases hb
          refine .inr ⟨k, _, ?_, rfl, rfl⟩
          have : c = ⟨#[k]⟩ := by
            obtain ⟨cps⟩ := c
            have : cps = #[k] := by
              rw [← Array.toArray_toList (xs := cps), hk]
            rw [this]
          rw [this]
        · cases hb
      · cases hb
    · split at hb
      · rename_i w ws h1 h2
        cases hb
        obtain ⟨e1, e2⟩ := rd.toFlat h1
        obtain ⟨ds, h3, h4⟩ := Option.bind_eq_some_iff.mp h2
        obtain ⟨p, vs, e3, h5, h6⟩ := re.seq rel h3
        obtain ⟨e4, e5⟩ := h6.toFlat h4
        rw [← hX.K] at h5
        refine .inl ⟨p, vs, e3, h5, ?_, ?_, ?_⟩
        · rw [e1]; exact e2
        · rw [e4]; exact e5
        · rw [e1, e4]
      · cases hb
  cases op with
  | Eq =>
    obtain ⟨p, r, h1, h2, h3, h4, rfl⟩ := eqs b hc
    exact op_eqD hu pins s σ H x y v u Q I rx ry ⟨p, r, h1, h2, h3, h4, q⟩
  | NotEq =>
    obtain ⟨b', hb, rfl⟩ := Option.map_eq_some_iff.mp hc
    obtain ⟨p, r, h1, h2, h3, h4, rfl⟩ := eqs b' hb
    exact op_neD hu pins s σ H x y v u Q I rx ry ⟨p, r, h1, h2, h3, h4, q⟩
  | Lt =>
    cases rd <;> cases re <;> first | (cases hc; exact op_lt pins s σ H _ _ v u Q I rx ry ⟨_, _, rfl, rfl, q⟩) | cases hc
  | LtE =>
    cases rd <;> cases re <;> first | (cases hc; exact op_le pins s σ H _ _ v u Q I rx ry ⟨_, _, rfl, rfl, q⟩) | cases hc
  | Gt =>
    cases rd <;> cases re <;> first | (cases hc; exact op_gt pins s σ H _ _ v u Q I rx ry ⟨_, _, rfl, rfl, q⟩) | cases hc
  | GtE =>
    cases rd <;> cases re <;> first | (cases hc; exact op_ge pins s σ H _ _ v u Q I rx ry ⟨_, _, rfl, rfl, q⟩) | cases hc
  | Is =>
    cases re <;> cases rd <;> first | (cases hc; exact op_isN pins s σ H _ _ v u Q I rx ry ⟨rfl, q⟩) | cases hc
  | IsNot =>
    cases re <;> cases rd <;> first | (cases hc; exact op_notN pins s σ H _ _ v u Q I rx ry ⟨rfl, q⟩) | cases hc
  | In =>
    rcases ins b hc with ⟨p, xs, h1, h2, h3, h4, rfl⟩ | ⟨c, z, h1, h2, rfl⟩
    · exact op_in_seq pins s σ H x y v u Q I rx ry ⟨p, xs, h1, h2, h3, h4, q⟩
    · exact op_inS pins s σ H x y v u Q I rx ry ⟨c, z, h1, h2, q⟩
  | NotIn =>
    obtain ⟨b', hb, rfl⟩ := Option.map_eq_some_iff.mp hc
    rcases ins b' hb with ⟨p, xs, h1, h2, h3, h4, rfl⟩ | ⟨c, z, h1, h2, rfl⟩
    · exact op_notIn_seq pins s σ H x y v u Q I rx ry ⟨p, xs, h1, h2, h3, h4, q⟩
    · exact op_notInS pins s σ H x y v u Q I rx ry ⟨c, z, h1, h2, q⟩

/-! ### subscripts, slices -/
theorem ixN_of {α β : Type} {xs : List α} {ys : List β} (h : xs.length = ys.length) (i : Int) : ixN xs.length i = ixN ys.length i := by rw [h]
theorem Reps.atI {m : List Addr} {H : Hp} {vs : List V} {ds : List D} {i : Int} {d : D} (r : Reps B m H vs ds) (h : L2.atI ds i = some d) : ∃ v, L2.atI vs i = some v ∧ Rep B m H v d := by
  unfold L2.atI at h ⊢
  rw [r.length]
  obtain ⟨j, h1, h2⟩ := Option.bind_eq_some_iff.mp h
  obtain ⟨v, h3, h4⟩ := r.get h2
  exact ⟨v, by rw [h1]; exact h3, h4⟩
def rIB (B : Bd) (W : WXH) : R2 := fun x y H Q => ∃ m S d e, Rel B m H S ∧ Rep B m H x d ∧ Rep B m H y e ∧ PostE B (Rep B) (ixD S d e) m H Q W
theorem ix_rB {W : WXH} (hX : Is X B) : IxR X (rIB B W) := by
  intro value slice pins s σ H x y v u Q I rx ry h hs
  obtain ⟨m, S, d, e, rel, rd, re, hp⟩ := h
  unfold ixD at hp
  split at hp
  · rename_i k
    cases re
    split at hp
    · cases rd
      split at hp
      · rename_i hz
        unfold okO at hp
        split at hp
        · rename_i d' hd
          obtain ⟨c, h1, rfl⟩ := Option.map_eq_some_iff.mp hd
          exact ix_str value slice pins s σ H _ _ v u Q I rx ry ⟨_, k, c, rfl, rfl, hz, h1, hp m H _ Ext.refl rel (.str _)⟩ hs
        · exact hp.elim
      · exact hp.elim
    · unfold okO at hp
      split at hp
      · rename_i d' hd
        obtain ⟨ds, h1, h2⟩ := Option.bind_eq_some_iff.mp hd
        obtain ⟨p, vs, e3, h5, h6⟩ := rd.seq rel h1
        obtain ⟨w, h7, h8⟩ := h6.atI h2
        have q := hp m H _ Ext.refl rel h8
        rw [← hX.K] at h5
        rcases h5 with h5 | h5
        · exact ix_list value slice pins s σ H _ _ v u Q I rx ry ⟨p, vs, k, w, e3, rfl, h5, h7, q⟩ hs
        · exact ix_tup value slice pins s σ H _ _ v u Q I rx ry ⟨p, vs, k, w, e3, rfl, h5, h7, q⟩ hs
      · exact hp.elim
  · exact hp.elim
theorem rep_newV {m : List Addr} {H : Hp} {S : Sto} {p : Addr} (rel : Rel B m H S) {vs : List V} {ds : List D} (hr : Reps B m H vs ds) (hp : H p = none) {Q : VK} {W : WXH}
    (h : PostE B (Rep B) (new (.lst ds) S) m H Q W) : Q (.ref p) (upd H p (.lst vs)) := rep_new rel hr hp h
theorem rep_tup {m : List Addr} {H : Hp} {S : Sto} {p : Addr} (rel : Rel B m H S) {vs : List V} {ds : List D} (hr : Reps B m H vs ds) (hp : H p = none) {Q : VK} {W : WXH}
    (h : PostE B (Rep B) (.ok (.tup ds) S) m H Q W) : Q (.ref p) (upd H p (.tup vs)) := h m _ _ (Ext.new hp) (rel.new0 hp) (.tup (.of upd_same) (hr.ext rel (Ext.new hp)))
theorem cutL_all {α : Type} {xs : List α} {lo hi : Option Int} (h : HT.sIx xs.length 0 lo = 0 ∧ HT.sIx xs.length xs.length hi = xs.length) : cutL xs lo hi = xs := by
  unfold cutL
  rw [h.1, h.2]
  simp
def rSB (B : Bd) (W : WXH) : V → Option Int → Option Int → Hp → VK → Prop := fun x lo hi H Q => ∃ m S d, Rel B m H S ∧ Rep B m H x d ∧ PostE B (Rep B) (cutD S d lo hi) m H Q W
theorem sl_rB {W : WXH} (hX : Is X B) : SlR X (rSB B W) := by
  intro pins s σ H x v vl vu lo hi sl Q I rx hs pl pu h
  obtain ⟨m, S, d, rel, rd, hp⟩ := h
  unfold cutD at hp
  split at hp
  · rename_i ds
    cases rd with
    | @tup a xs _ ht hr =>
      rw [← hX.K] at ht
      refine sl_tupA pins s σ H _ v vl vu lo hi sl Q I rx hs pl pu ⟨a, xs, rfl, ht, fun hw => ?_, fun hw p hn => rep_tup rel (hr.cut lo hi) hn hp⟩
      rw [hX.K] at ht
      rw [hr.length] at hw
      rw [cutL_all hw] at hp
      exact hp m H _ Ext.refl rel (.tup ht hr)
  · cases rd
    split at hp
    · rename_i hz
      exact sl_str pins s σ H _ v vl vu lo hi sl Q I rx hs pl pu ⟨_, rfl, hz, hp m H _ Ext.refl rel (.str _)⟩
    · exact hp.elim
  · split at hp
    · rename_i ds h1
      obtain ⟨p, vs, e3, h5, h6⟩ := rd.lst rel h1
      rw [← hX.K] at h5
      exact sl_list pins s σ H _ v vl vu lo hi sl Q I rx hs pl pu ⟨p, vs, e3, h5, fun q hn => rep_new rel (h6.cut lo hi) hn hp⟩
    · exact hp.elim
end
end Pi

set_option Elab.async false
set_option linter.all false
set_option maxHeartbeats 1000000
namespace Pi
open PySem L2 PyProof.Rows
section
variable {X : Cx} {B : Bd} {W : WXH}
theorem okO_ok {o : Option D} {S : Sto} {m : List Addr} {H : Hp} {Q : VK} (h : PostE B (Rep B) (okO o S) m H Q W) : ∃ d, o = some d ∧ PostE B (Rep B) (.ok d S) m H Q W := by
  unfold okO at h
  split at h
  · exact ⟨_, rfl, h⟩
  · exact h.elim
theorem okB_ok {o : Option Bool} {S : Sto} {m : List Addr} {H : Hp} {Q : VK} (h : PostE B (Rep B) (okB o S) m H Q W) : ∃ d, o = some d ∧ PostE B (Rep B) (.ok (.bl d) S) m H Q W := by
  unfold okB at h
  split at h
  · exact ⟨_, rfl, h⟩
  · exact h.elim
/-- a built-in's reading -/
def rF (B : Bd) (W : WXH) (g : List D → Sto → Res D) : List V → Hp → VK → Prop := fun xs H Q => ∃ m S ds, Rel B m H S ∧ Reps B m H xs ds ∧ PostE B (Rep B) (g ds S) m H Q W
theorem Reps.one {m : List Addr} {H : Hp} {xs : List V} {d : D} (r : Reps B m H xs [d]) : ∃ v, xs = [v] ∧ Rep B m H v d := by
  cases r with
  | cons a b => cases b; exact ⟨_, rfl, a⟩
theorem Reps.two {m : List Addr} {H : Hp} {xs : List V} {d e : D} (r : Reps B m H xs [d, e]) : ∃ v w, xs = [v, w] ∧ Rep B m H v d ∧ Rep B m H w e := by
  cases r with
  | cons a b =>
    obtain ⟨w, rfl, h⟩ := b.one
    exact ⟨_, _, rfl, a, h⟩
theorem c_len (hX : Is X B) : CallR X (.builtin "len") (rF B W bLen) := by
  intro pins s σ H xs us Q I r h
  obtain ⟨m, S, ds, rel, rs, hp⟩ := h
  refine call_len pins s σ H xs us Q I r ?_
  unfold bLen at hp
  split at hp
  · obtain ⟨v, rfl, rv⟩ := rs.one
    cases rv
    split at hp
    · rename_i hz
      exact ⟨_, _, rfl, ⟨hz, rfl⟩, hp m H _ Ext.refl rel (.int _)⟩
    · exact hp.elim
  · obtain ⟨v, rfl, rv⟩ := rs.one
    obtain ⟨d, h1, h2⟩ := okO_ok hp
    obtain ⟨ds, h3, rfl⟩ := Option.map_eq_some_iff.mp h1
    obtain ⟨p, vs, rfl, h5, h6⟩ := rv.seq rel h3
    have q := h2 m H _ Ext.refl rel (.int _)
    rw [← h6.length] at q
    rw [← hX.K] at h5
    refine ⟨_, _, rfl, ?_, q⟩
    rcases h5 with h5 | h5
    · exact .inl ⟨vs, h5, rfl⟩
    · exact .inr ⟨vs, h5, rfl⟩
  · exact hp.elim
theorem c_int : CallR X (.type "int") (rF B W bInt) := by
  intro pins s σ H xs us Q I r h
  obtain ⟨m, S, ds, rel, rs, hp⟩ := h
  unfold bInt at hp
  split at hp
  · obtain ⟨v, rfl, rv⟩ := rs.one
    cases rv
    exact call_int1 pins s σ H _ us Q I r (.inl ⟨_, rfl, hp m H _ Ext.refl rel (.int _)⟩)
  · obtain ⟨v, rfl, rv⟩ := rs.one
    cases rv
    exact call_int1 pins s σ H _ us Q I r (.inr ⟨_, rfl, hp m H _ Ext.refl rel (.int _)⟩)
  · obtain ⟨v, rfl, rv⟩ := rs.one
    cases rv
    split at hp
    · rename_i n hn
      split at hp
      · rename_i hz
        exact call_int_str pins s σ H _ us Q I r ⟨_, n, rfl, hn, hz, hp m H _ Ext.refl rel (.int _)⟩
      · exact hp.elim
    · exact hp.elim
  · exact hp.elim
theorem c_str : CallR X (.type "str") (rF B W bStr) := by
  intro pins s σ H xs us Q I r h
  obtain ⟨m, S, ds, rel, rs, hp⟩ := h
  unfold bStr at hp
  split at hp
  · obtain ⟨v, rfl, rv⟩ := rs.one
    cases rv
    split at hp
    · rename_i hz
      exact call_str_int pins s σ H _ us Q I r ⟨_, rfl, hz, hp m H _ Ext.refl rel (.str _)⟩
    · exact hp.elim
  · exact hp.elim
theorem c_abs : CallR X (.builtin "abs") (rF B W bAbs) := by
  intro pins s σ H xs us Q I r h
  obtain ⟨m, S, ds, rel, rs, hp⟩ := h
  unfold bAbs at hp
  split at hp
  · obtain ⟨v, rfl, rv⟩ := rs.one
    cases rv
    exact call_abs pins s σ H _ us Q I r ⟨_, rfl, hp m H _ Ext.refl rel (.int _)⟩
  · exact hp.elim
theorem lst_ints {m : List Addr} {H : Hp} {S : Sto} {v : V} {d : D} {ns : List Int} (hX : Is X B) (rel : Rel B m H S) (r : Rep B m H v d) (h : (lstOf S d).bind intsOf = some ns) : ∃ p, v = .ref p ∧ SqL X.K H p (ns.map V.int) := by
  obtain ⟨ds, h1, h2⟩ := Option.bind_eq_some_iff.mp h
  obtain ⟨p, vs, rfl, h3, h4⟩ := r.lst rel h1
  have e := h4.toInts h2
  subst e
  rw [← hX.K] at h3
  exact ⟨p, rfl, h3⟩
theorem lst_bls {m : List Addr} {H : Hp} {S : Sto} {v : V} {d : D} {ns : List Bool} (hX : Is X B) (rel : Rel B m H S) (r : Rep B m H v d) (h : (lstOf S d).bind blsOf = some ns) : ∃ p, v = .ref p ∧ SqL X.K H p (ns.map V.bl) := by
  obtain ⟨ds, h1, h2⟩ := Option.bind_eq_some_iff.mp h
  obtain ⟨p, vs, rfl, h3, h4⟩ := r.lst rel h1
  have e := h4.toBls h2
  subst e
  rw [← hX.K] at h3
  exact ⟨p, rfl, h3⟩
theorem maxL_spec : ∀ {ns : List Int} {b : Int}, maxL ns = some b → b ∈ ns ∧ ∀ y ∈ ns, y ≤ b
  | [], _, h => by cases h
  | [a], b, h => by cases h; simp
  | a :: c :: r, b, h => by
    dsimp only [maxL] at h
    obtain ⟨d, h1, rfl⟩ := Option.map_eq_some_iff.mp h
    obtain ⟨h2, h3⟩ := maxL_spec (ns := c :: r) h1
    refine ⟨?_, fun y hy => ?_⟩
    · split
      · exact List.mem_cons_of_mem _ h2
      · exact List.mem_cons_self ..
    · rcases List.mem_cons.mp hy with rfl | hy
      · split <;> omega
      · have := h3 y hy
        split <;> omega
theorem minL_spec : ∀ {ns : List Int} {b : Int}, minL ns = some b → b ∈ ns ∧ ∀ y ∈ ns, b ≤ y
  | [], _, h => by cases h
  | [a], b, h => by cases h; simp
  | a :: c :: r, b, h => by
    dsimp only [minL] at h
    obtain ⟨d, h1, rfl⟩ := Option.map_eq_some_iff.mp h
    obtain ⟨h2, h3⟩ := minL_spec (ns := c :: r) h1
    refine ⟨?_, fun y hy => ?_⟩
    · split
      · exact List.mem_cons_of_mem _ h2
      · exact List.mem_cons_self ..
    · rcases List.mem_cons.mp hy with rfl | hy
      · split <;> omega
      · have := h3 y hy
        split <;> omega
theorem c_max (hX : Is X B) (hc : X.calm = true) : CallR X (.builtin "max") (rF B W bMax) := by
  intro pins s σ H xs us Q I r h
  obtain ⟨m, S, ds, rel, rs, hp⟩ := h
  unfold bMax at hp
  split at hp
  · obtain ⟨v, w, rfl, rv, rw'⟩ := rs.two
    cases rv
    cases rw'
    exact call_max2 hc pins s σ H _ us Q I r ⟨_, _, rfl, hp m H _ Ext.refl rel (.int _)⟩
  · obtain ⟨v, rfl, rv⟩ := rs.one
    obtain ⟨d, h1, h2⟩ := okO_ok hp
    obtain ⟨b, h3, rfl⟩ := Option.map_eq_some_iff.mp h1
    obtain ⟨ns, h4, h5⟩ := Option.bind_eq_some_iff.mp h3
    obtain ⟨p, rfl, h6⟩ := lst_ints hX rel rv h4
    obtain ⟨h7, h8⟩ := maxL_spec h5
    refine cr_max hc pins s σ H _ us Q I r ⟨p, ns, rfl, h6, List.length_pos_of_mem h7, fun k hk hy => ?_⟩
    have e : k = b := Int.le_antisymm (h8 k hk) (hy b h7)
    subst e
    exact h2 m H _ Ext.refl rel (.int _)
  · exact hp.elim
theorem c_min (hX : Is X B) (hc : X.calm = true) : CallR X (.builtin "min") (rF B W bMin) := by
  intro pins s σ H xs us Q I r h
  obtain ⟨m, S, ds, rel, rs, hp⟩ := h
  unfold bMin at hp
  split at hp
  · obtain ⟨v, w, rfl, rv, rw'⟩ := rs.two
    cases rv
    cases rw'
    exact call_min2 hc pins s σ H _ us Q I r ⟨_, _, rfl, hp m H _ Ext.refl rel (.int _)⟩
  · obtain ⟨v, rfl, rv⟩ := rs.one
    obtain ⟨d, h1, h2⟩ := okO_ok hp
    obtain ⟨b, h3, rfl⟩ := Option.map_eq_some_iff.mp h1
    obtain ⟨ns, h4, h5⟩ := Option.bind_eq_some_iff.mp h3
    obtain ⟨p, rfl, h6⟩ := lst_ints hX rel rv h4
    obtain ⟨h7, h8⟩ := minL_spec h5
    refine cr_min hc pins s σ H _ us Q I r ⟨p, ns, rfl, h6, List.length_pos_of_mem h7, fun k hk hy => ?_⟩
    have e : k = b := Int.le_antisymm (hy b h7) (h8 k hk)
    subst e
    exact h2 m H _ Ext.refl rel (.int _)
  · exact hp.elim
theorem c_sum (hX : Is X B) (hc : X.calm = true) : CallR X (.builtin "sum") (rF B W bSum) := by
  intro pins s σ H xs us Q I r h
  obtain ⟨m, S, ds, rel, rs, hp⟩ := h
  unfold bSum at hp
  split at hp
  · obtain ⟨v, rfl, rv⟩ := rs.one
    obtain ⟨d, h1, h2⟩ := okO_ok hp
    obtain ⟨ns, h4, rfl⟩ := Option.map_eq_some_iff.mp h1
    obtain ⟨p, rfl, h6⟩ := lst_ints hX rel rv h4
    exact cr_sum hc pins s σ H _ us Q I r ⟨p, ns, rfl, h6, h2 m H _ Ext.refl rel (.int _)⟩
  · exact hp.elim
theorem c_all (hX : Is X B) (hc : X.calm = true) : CallR X (.builtin "all") (rF B W bAll) := by
  intro pins s σ H xs us Q I r h
  obtain ⟨m, S, ds, rel, rs, hp⟩ := h
  unfold bAll at hp
  split at hp
  · obtain ⟨v, rfl, rv⟩ := rs.one
    obtain ⟨d, h1, h2⟩ := okO_ok hp
    obtain ⟨ns, h4, rfl⟩ := Option.map_eq_some_iff.mp h1
    obtain ⟨p, rfl, h6⟩ := lst_bls hX rel rv h4
    exact cr_all hc pins s σ H _ us Q I r ⟨p, ns, rfl, h6, h2 m H _ Ext.refl rel (.bl _)⟩
  · exact hp.elim
theorem c_any (hX : Is X B) (hc : X.calm = true) : CallR X (.builtin "any") (rF B W bAny) := by
  intro pins s σ H xs us Q I r h
  obtain ⟨m, S, ds, rel, rs, hp⟩ := h
  unfold bAny at hp
  split at hp
  · obtain ⟨v, rfl, rv⟩ := rs.one
    obtain ⟨d, h1, h2⟩ := okO_ok hp
    obtain ⟨ns, h4, rfl⟩ := Option.map_eq_some_iff.mp h1
    obtain ⟨p, rfl, h6⟩ := lst_bls hX rel rv h4
    exact cr_any hc pins s σ H _ us Q I r ⟨p, ns, rfl, h6, h2 m H _ Ext.refl rel (.bl _)⟩
  · exact hp.elim
theorem c_list (hX : Is X B) : CallR X (.type "list") (rF B W bList) := by
  intro pins s σ H xs us Q I r h
  obtain ⟨m, S, ds, rel, rs, hp⟩ := h
  unfold bList at hp
  split at hp
  · obtain ⟨v, rfl, rv⟩ := rs.one
    split at hp
    · rename_i es he
      obtain ⟨p, vs, rfl, h5, h6⟩ := rv.seq rel he
      rw [← hX.K] at h5
      exact call_list_of pins s σ H _ us Q I r ⟨p, vs, rfl, h5, fun l hl => rep_new rel h6 hl hp⟩
    · exact hp.elim
  · exact hp.elim
theorem c_tuple (hX : Is X B) : CallR X (.type "tuple") (rF B W bTuple) := by
  intro pins s σ H xs us Q I r h
  obtain ⟨m, S, ds, rel, rs, hp⟩ := h
  unfold bTuple at hp
  split at hp
  · obtain ⟨v, rfl, rv⟩ := rs.one
    cases rv with
    | @tup a xs _ ht hr =>
      have ht' := ht
      rw [← hX.K] at ht
      exact call_tuple_of pins s σ H _ us Q I r ⟨a, xs, rfl, .inr ⟨ht, hp m H _ Ext.refl rel (.tup ht' hr)⟩⟩
  · obtain ⟨v, rfl, rv⟩ := rs.one
    obtain ⟨d, h1, h2⟩ := okO_ok hp
    obtain ⟨es, h4, rfl⟩ := Option.map_eq_some_iff.mp h1
    obtain ⟨p, vs, rfl, h5, h6⟩ := rv.lst rel h4
    rw [← hX.K] at h5
    exact call_tuple_of pins s σ H _ us Q I r ⟨p, vs, rfl, .inl ⟨h5, fun l hl => rep_tup rel h6 hl h2⟩⟩
  · exact hp.elim
theorem ins_perm (a : Int) : ∀ l : List Int, (ins (fun a b => decide (a ≤ b)) a l).Perm (a :: l)
  | [] => .refl _
  | b :: r => by
    unfold ins
    split
    · exact .refl _
    · exact ((ins_perm a r).cons b).trans (.swap a b r)
theorem isort_perm : ∀ l : List Int, (isort (fun a b => decide (a ≤ b)) l).Perm l
  | [] => .refl _
  | a :: r => (ins_perm a _).trans ((isort_perm r).cons a)
theorem ins_sorted (a : Int) : ∀ l : List Int, l.Pairwise (· ≤ ·) → (ins (fun a b => decide (a ≤ b)) a l).Pairwise (· ≤ ·)
  | [], _ => by simp [ins]
  | b :: r, h => by
    unfold ins
    have h' := List.pairwise_cons.mp h
    split
    · rename_i hab
      rw [decide_eq_true_eq] at hab
      refine List.pairwise_cons.mpr ⟨fun c hc => ?_, h⟩
      rcases List.mem_cons.mp hc with rfl | hc
      · exact hab
      · exact Int.le_trans hab (h'.1 c hc)
    · rename_i hab
      rw [decide_eq_true_eq] at hab
      refine List.pairwise_cons.mpr ⟨fun c hc => ?_, ins_sorted a r h'.2⟩
      rcases List.mem_cons.mp ((ins_perm a r).mem_iff.mp hc) with rfl | hc
      · omega
      · exact h'.1 c hc
theorem isort_sorted : ∀ l : List Int, (isort (fun a b => decide (a ≤ b)) l).Pairwise (· ≤ ·)
  | [] => .nil
  | a :: r => ins_sorted a _ (isort_sorted r)
theorem c_sorted (hX : Is X B) : CallR X (.builtin "sorted") (rF B W bSorted) := by
  intro pins s σ H xs us Q I r h
  obtain ⟨m, S, ds, rel, rs, hp⟩ := h
  unfold bSorted at hp
  split at hp
  · obtain ⟨v, rfl, rv⟩ := rs.one
    split at hp
    · rename_i ns hn
      obtain ⟨p, rfl, h6⟩ := lst_ints hX rel rv hn
      refine cr_sortedI pins s σ H _ us Q I r ⟨p, ns, rfl, h6, fun ns' q hperm hs hq => ?_⟩
      have e : ns' = isort (fun a b => decide (a ≤ b)) ns := (hperm.trans (isort_perm ns).symm).eq_of_pairwise (fun a b _ _ h1 h2 => Int.le_antisymm h1 h2) hs (isort_sorted ns)
      subst e
      exact rep_new rel (Reps.ints _) hq hp
    · exact hp.elim
  · exact hp.elim
theorem Rep.tyx {m : List Addr} {H : Hp} {S : Sto} {v : V} {d : D} {n : String} {b : Bool} (hX : Is X B) (rel : Rel B m H S) (r : Rep B m H v d) (h : isTy S d n = some b) : ∃ t, TyX X.K H v t ∧ PySem.W.kitOne X.K t (.type n) = some b := by
  have key : ∀ T : String, T ∈ ["NoneType", "bool", "int", "str", "tuple", "list"] → ["int", "bool", "str", "tuple", "list"].contains n = true → PySem.W.kitOne X.K (.type T) (.type n) = some (T == n || (T == "bool" && n == "int")) := fun T hT hn => by
    refine kit_ty ?_
    simp only [List.contains_eq_mem, List.mem_cons, List.not_mem_nil, or_false, decide_eq_true_eq] at hn hT
    rcases hT with rfl | rfl | rfl | rfl | rfl | rfl <;> rcases hn with rfl | rfl | rfl | rfl | rfl <;> decide +kernel
  unfold isTy at h
  dsimp only at h
  split at h
  · rename_i hn
    obtain ⟨T, h1, rfl⟩ := Option.map_eq_some_iff.mp h
    cases r with
    | non => cases h1; exact ⟨_, .base .non, key _ (by simp) hn⟩
    | bl => cases h1; exact ⟨_, .base (.bl _), key _ (by simp) hn⟩
    | int => cases h1; exact ⟨_, .base (.int _), key _ (by simp) hn⟩
    | str => cases h1; exact ⟨_, .base (.str _), key _ (by simp) hn⟩
    | tup ht hr =>
      cases h1
      rw [← hX.K] at ht
      refine ⟨_, ?_, key _ (by simp) hn⟩
      rcases ht with (ht | ⟨o, ht⟩) | ⟨o, its, k, h1, h2, h3⟩
      · exact .base (.tup ht)
      · exact .fTuple ht
      · exact .kTuple h1 h2
    | rol ht hr =>
      cases h1
      rw [← hX.K] at ht
      refine ⟨_, ?_, key _ (by simp) hn⟩
      rcases ht with ⟨o, ht⟩ | ⟨o, its, k, h1, h2, h3⟩
      · exact .base (.frz ht)
      · exact .kList h1 h2
    | @obj k a ha =>
      dsimp only at h1
      split at h1
      · rename_i e
        cases h1
        obtain ⟨vs, q1, r1⟩ := rel.ob _ _ _ ha e
        exact ⟨_, .base (.lst q1), key _ (by simp) hn⟩
      · cases h1
    | _ => cases h1
  · cases h
theorem c_isi (hX : Is X B) : CallR X (.builtin "isinstance") (rF B W bIsi) := by
  intro pins s σ H xs us Q I r h
  obtain ⟨m, S, ds, rel, rs, hp⟩ := h
  unfold bIsi at hp
  split at hp
  · obtain ⟨v, w, rfl, rv, rw'⟩ := rs.two
    cases rw'
    obtain ⟨b, h1, h2⟩ := okB_ok hp
    obtain ⟨t, h3, h4⟩ := rv.tyx hX rel h1
    exact call_isi pins s σ H _ us Q I r ⟨v, _, t, _, b, rfl, .ty _, h3, h4, h2 m H _ Ext.refl rel (.bl _)⟩
  · exact hp.elim
end
end Pi

set_option Elab.async false
set_option linter.all false
set_option maxHeartbeats 1000000
namespace Pi
open PySem L2 PyProof.Rows
section
variable {X : Cx} {B : Bd} {W : WXH}
/-! ### methods -/
def rM (B : Bd) (W : WXH) (g : D → List D → Sto → Res D) : V → List V → Hp → VK → Prop := fun x xs H Q => ∃ m S d ds, Rel B m H S ∧ Rep B m H x d ∧ Reps B m H xs ds ∧ PostE B (Rep B) (g d ds S) m H Q W
theorem Reps.zero {m : List Addr} {H : Hp} {xs : List V} (r : Reps B m H xs []) : xs = [] := by
  cases r
  rfl
theorem m_append : MtR X "list.append" (rM B W mAppend) := by
  intro pins s σ H x xs v us Q I rx rxs h
  obtain ⟨m, S, d, ds, rel, rd, rs, hp⟩ := h
  unfold mAppend at hp
  split at hp
  · obtain ⟨w, rfl, rw'⟩ := rs.one
    split at hp
    · rename_i es he
      split at hp
      · rename_i hz
        obtain ⟨p, vs, rfl, hm, hH, hr⟩ := rd.objLst rel he
        rw [← hr.length] at hz
        refine mt_append pins s σ H _ _ v us Q I rx rxs ⟨p, vs, w, rfl, rfl, hH, hz, ?_⟩
        exact hp m _ _ (Ext.set (List.mem_of_getElem? hm)) (rel.set hm he (hr.append (.cons rw' .nil))) .non
      · exact hp.elim
    · exact hp.elim
  · exact hp.elim
theorem m_pop : MtR X "list.pop" (rM B W mPop) := by
  intro pins s σ H x xs v us Q I rx rxs h
  obtain ⟨m, S, d, ds, rel, rd, rs, hp⟩ := h
  unfold mPop at hp
  split at hp
  · have e := rs.zero
    subst e
    split at hp
    · rename_i es he
      split at hp
      · rename_i y hy
        obtain ⟨p, vs, rfl, hm, hH, hr⟩ := rd.objLst rel he
        obtain ⟨w, hw, rw'⟩ := hr.get hy
        rw [← hr.length] at hw
        refine mt_pop pins s σ H _ _ v us Q I rx rxs ⟨p, vs, w, rfl, rfl, hH, hw, ?_⟩
        have e := Ext.set (H := H) (ws := vs.dropLast) (List.mem_of_getElem? hm)
        exact hp m _ _ e (rel.set hm he hr.dropLast) (rw'.ext rel e)
      · exact hp.elim
    · exact hp.elim
  · obtain ⟨w, rfl, rw'⟩ := rs.one
    cases rw'
    split at hp
    · rename_i es he
      split at hp
      · rename_i hb
        simp only [Bool.and_eq_true, decide_eq_true_eq] at hb
        split at hp
        · rename_i j hj
          split at hp
          · rename_i y hy
            obtain ⟨p, vs, rfl, hm, hH, hr⟩ := rd.objLst rel he
            obtain ⟨w, hw, rw'⟩ := hr.get hy
            rw [← hr.length] at hj
            refine mt_popAt pins s σ H _ _ v us Q I rx rxs ⟨p, vs, _, j, w, rfl, rfl, hH, hb.1, hb.2, hj, hw, ?_⟩
            have e := Ext.set (H := H) (ws := vs.eraseIdx j) (List.mem_of_getElem? hm)
            exact hp m _ _ e (rel.set hm he (hr.eraseIdx j)) (rw'.ext rel e)
          · exact hp.elim
        · exact hp.elim
      · exact hp.elim
    · exact hp.elim
  · exact hp.elim
theorem findIx_spec {α : Type} {p : α → Bool} : ∀ {l : List α} {j : Nat}, findIx p l = some j → ∃ z, l[j]? = some z ∧ p z = true ∧ ∀ (k : Nat) (z' : α), k < j → l[k]? = some z' → p z' = false
  | [], _, h => by cases h
  | a :: r, j, h => by
    unfold findIx at h
    split at h
    · rename_i ha
      cases h
      exact ⟨a, rfl, ha, fun k z' hk => absurd hk (Nat.not_lt_zero k)⟩
    · rename_i ha
      obtain ⟨i, h1, rfl⟩ := Option.map_eq_some_iff.mp h
      obtain ⟨z, h2, h3, h4⟩ := findIx_spec h1
      refine ⟨z, by simpa using h2, h3, fun k z' hk hz => ?_⟩
      cases k with
      | zero =>
        simp at hz
        subst hz
        simpa using ha
      | succ k => exact h4 k z' (by omega) (by simpa using hz)
theorem lst_flat {m : List Addr} {H : Hp} {S : Sto} {v : V} {d : D} {ns : List V} (hX : Is X B) (rel : Rel B m H S) (r : Rep B m H v d) (h : (lstOf S d).bind allFlat = some ns) : ∃ p, v = .ref p ∧ SqL X.K H p ns ∧ ns.all flatV = true := by
  obtain ⟨ds, h1, h2⟩ := Option.bind_eq_some_iff.mp h
  obtain ⟨p, vs, rfl, h3, h4⟩ := r.lst rel h1
  obtain ⟨e, hf⟩ := h4.toFlat h2
  subst e
  rw [← hX.K] at h3
  exact ⟨p, rfl, h3, hf⟩
theorem m_index (hX : Is X B) : MtR X "list.index" (rM B W mIndex) := by
  intro pins s σ H x xs v us Q I rx rxs h
  obtain ⟨m, S, d, ds, rel, rd, rs, hp⟩ := h
  unfold mIndex at hp
  split at hp
  · obtain ⟨w, rfl, rw'⟩ := rs.one
    split at hp
    · rename_i vs y h1 h2
      obtain ⟨e, fy⟩ := rw'.toFlat h2
      subst e
      obtain ⟨p, rfl, h3, h4⟩ := lst_flat hX rel rd h1
      obtain ⟨d', h5, h6⟩ := okO_ok hp
      obtain ⟨j, h7, rfl⟩ := Option.map_eq_some_iff.mp h5
      obtain ⟨z, h8, h9, h10⟩ := findIx_spec h7
      exact mt_index pins s σ H _ _ v us Q I rx rxs ⟨p, vs, _, j, z, rfl, rfl, h3, fy, h4, h8, h9, h10, h6 m H _ Ext.refl rel (.int _)⟩
    · exact hp.elim
  · exact hp.elim
theorem countP_eqU {x : V} : ∀ {xs : List V} {us : List Value}, Vals xs us → xs.all flatV = true → us.countP (eqU x) = xs.countP fun y => eqV y x
  | _, _, .nil, _ => rfl
  | y :: xs, u :: us, .cons r t, f => by
    rw [List.all_cons, Bool.and_eq_true] at f
    rw [List.countP_cons, List.countP_cons, eqU_of r f.1, countP_eqU t f.2]
theorem m_count (hX : Is X B) : MtR X "list.count" (rM B W mCount) := by
  intro pins s σ H x xs v us Q I rx rxs h
  obtain ⟨m, S, d, ds, rel, rd, rs, hp⟩ := h
  unfold mCount at hp
  split at hp
  · obtain ⟨w, rfl, rw'⟩ := rs.one
    split at hp
    · rename_i vs y h1 h2
      obtain ⟨e, fy⟩ := rw'.toFlat h2
      subst e
      obtain ⟨p, rfl, h3, h4⟩ := lst_flat hX rel rd h1
      cases rx
      obtain ⟨u, rfl, ru⟩ := rxs.one
      obtain ⟨its, rv, ⟨⟨cls, dd, data, sl⟩, n, ho, hc, hdn, hd⟩, hlen⟩ := I.list h3
      simp only at hc hd
      subst hc hd
      refine call_meets PySem.F.slot_list_count ⟨_, ho, rfl⟩ PySem.F.entry_list_count (PySem.F.args_list_count_2 _ _)
        (SeqAt.list_countAt p its.toArray n dd sl u (eqU w)) ⟨ho, fun y hy => mem_eqAt ru fy rv h4 y (by simpa using hy), ?_⟩
      have e := countP_eqU (x := w) rv h4
      refine ⟨.int ((vs.countP fun z => eqV z w : Nat) : Int), H, I.tok _, ⟨s.toks, ?_⟩, hp m H _ Ext.refl rel (.int _)⟩
      show Value.int ((its.toArray.toList.countP (eqU w) : Nat) : Int) s.toks = _
      rw [show its.toArray.toList = its from rfl, e]
    · exact hp.elim
  · exact hp.elim
theorem m_split : MtR X "str.split" (rM B W mSplit) := by
  intro pins s σ H x xs v us Q I rx rxs h
  obtain ⟨m, S, d, ds, rel, rd, rs, hp⟩ := h
  unfold mSplit at hp
  split at hp
  · obtain ⟨w, rfl, rw'⟩ := rs.one
    cases rd
    cases rw'
    split at hp
    · rename_i hb
      simp only [Bool.and_eq_true, Bool.not_eq_true', decide_eq_true_eq] at hb
      exact mt_split pins s σ H _ _ v us Q I rx rxs ⟨_, _, rfl, rfl, hb.1, hb.2, fun p hn => rep_new rel (Reps.strs _) hn hp⟩
    · exact hp.elim
  · exact hp.elim
theorem m_join (hX : Is X B) : MtR X "str.join" (rM B W mJoin) := by
  intro pins s σ H x xs v us Q I rx rxs h
  obtain ⟨m, S, d, ds, rel, rd, rs, hp⟩ := h
  unfold mJoin at hp
  split at hp
  · obtain ⟨w, rfl, rw'⟩ := rs.one
    cases rd
    split at hp
    · rename_i ys hy
      split at hp
      · rename_i hb
        unfold joinOk at hb
        rw [decide_eq_true_eq] at hb
        obtain ⟨ds, h1, h2⟩ := Option.bind_eq_some_iff.mp hy
        obtain ⟨p, vs, rfl, h3, h4⟩ := rw'.seq rel h1
        have e := h4.toStrs h2
        subst e
        rw [← hX.K] at h3
        exact mt_join pins s σ H _ _ v us Q I rx rxs ⟨_, p, ys, rfl, rfl, h3, hb, hp m H _ Ext.refl rel (.str _)⟩
      · exact hp.elim
    · exact hp.elim
  · exact hp.elim
/-- o[i] = v -/
def rSet (B : Bd) (W : WXH) : V → V → V → Hp → (Hp → Prop) → Prop := fun o i v H Q => ∃ m S d e f, Rel B m H S ∧ Rep B m H o d ∧ Rep B m H i e ∧ Rep B m H v f ∧ PostE B (fun _ _ (_ : Unit) (_ : Unit) => True) (setIx S d e f) m H (fun _ H' => Q H') W
theorem set_rB : PSet X (rSet B W) := by
  intro pins s σ H o i v ov iv u Q I ro ri rv h
  obtain ⟨m, S, d, e, f, rel, rd, re, rf, hp⟩ := h
  unfold setIx at hp
  split at hp
  · cases re
    split at hp
    · rename_i es he
      split at hp
      · rename_i n hn
        obtain ⟨p, vs, rfl, hm, hH, hr⟩ := rd.objLst rel he
        rw [← hr.length] at hn
        refine set_list pins s σ H _ _ v ov iv u Q I ro ri rv ⟨p, vs, _, n, rfl, rfl, hH, hn, ?_⟩
        exact hp m _ () (Ext.set (List.mem_of_getElem? hm)) (rel.set hm he (hr.set rf n)) trivial
      · exact hp.elim
    · exact hp.elim
  · exact hp.elim
/-- what a method call by its receiver's type asks -/
structure MtOk (X : Cx) (B : Bd) (W : WXH) (T : String) (m : Str) (id : String) : Prop where
  pa : PlainAttrs T
  slot : Slot T m id
  ty : typeOf (.builtin id) = pure (.type "method_descriptor")
  mt : MtR X id (rM B W (meth m))
theorem mt_ok (hX : Is X B) {T id : String} {m : Str} (h : mtId m T = some id) : MtOk X B W T m id := by
  unfold mtId at h
  split at h
  · rename_i hT
    subst hT
    split at h
    · rename_i hm
      subst hm
      cases h
      exact ⟨F.plainAttrs_list, F.slot_list_append, F.type_list_append, m_append⟩
    split at h
    · rename_i hm
      subst hm
      cases h
      exact ⟨F.plainAttrs_list, F.slot_list_pop, F.type_list_pop, m_pop⟩
    split at h
    · rename_i hm
      subst hm
      cases h
      exact ⟨F.plainAttrs_list, F.slot_list_index, F.type_list_index, m_index hX⟩
    split at h
    · rename_i hm
      subst hm
      cases h
      exact ⟨F.plainAttrs_list, F.slot_list_count, F.type_list_count, m_count hX⟩
    cases h
  split at h
  · rename_i hT
    subst hT
    split at h
    · rename_i hm
      subst hm
      cases h
      exact ⟨F.plainAttrs_str, F.slot_str_split, F.type_str_split, m_split⟩
    split at h
    · rename_i hm
      subst hm
      cases h
      exact ⟨F.plainAttrs_str, F.slot_str_join, F.type_str_join, m_join hX⟩
    cases h
  cases h
theorem recv_ty (hX : Is X B) {m : List Addr} {H : Hp} {S : Sto} {v : V} {d : D} {T : String} (rel : Rel B m H S) (r : Rep B m H v d) (h : recv S d = some T) : tyV X.K T v H := by
  unfold recv at h
  split at h
  · cases r
    cases h
    rfl
  · obtain ⟨ds, h1, rfl⟩ := Option.map_eq_some_iff.mp h
    obtain ⟨p, vs, rfl, h3, h4⟩ := r.lst rel h1
    rw [← hX.K] at h3
    exact .inl ⟨rfl, vs, h3⟩
/-- o.m(e, ..): the receiver's type is known behind it -/
theorem pe_bmG {o e : Expr} {es : List Expr} {to : TE} {t : TA} {name : Str} {apos cpos : Pos} (ho : PE X o to) (ha : PA X (e :: es) t)
    (hbase : attributeBase o name X.env (eval o X.env) = eval o X.env)
    (hfew : ((backTo cpos (starEach (e :: es) X.env)).all (fun x => !x.1) && (backToKw cpos (keywordEach [] X.env)).all (fun x => x.1.isSome)
      && decide ((e :: es).length + ([] : List Keyword).length + (if ([] : List Keyword).isEmpty then 0 else 1) < 30)) = true)
    (hline : (apos.endLine == cpos.line) = true) (hs : starEach (e :: es) X.env = (false, eval e X.env) :: starEach es X.env) (hplain : (backTo cpos (starEach es X.env)).any (·.1) = false) :
    PE X (.Call (.Attribute o name apos) (e :: es) [] cpos) (fun σ H Q => to σ H fun x H1 => ∃ (T id : String) (r : V → List V → Hp → VK → Prop), PlainAttrs T ∧ Slot T name id ∧ typeOf (.builtin id) = pure (.type "method_descriptor") ∧ MtR X id r ∧ tyV X.K T x H1 ∧ t σ H1 fun xs H2 => r x xs H2 Q) := by
  refine ⟨fun pins s σ H Q I h => ?_⟩
  refine wpAny_Call_method_late hbase hfew hline rfl (thn (ho.run pins s σ H _ I h) fun v s1 ⟨x, H1, I1, r1, T, id, r, pa, slot, hty, hm, ty, q1⟩ => ?_)
  obtain ⟨h1, h2⟩ := tyV_is I1 r1 ty
  refine ⟨T, id, pa, slot, hty, h1, h2, ?_⟩
  have hA := ha.run cpos pins s1 σ H1 _ I1 q1
  rw [hs] at hA ⊢
  refine Calls.callWith_builtin (by show (false || (backTo cpos (starEach es X.env)).any (·.1)) = false; rw [hplain] <;> rfl) (Calls.evalArgs_plain ?_)
  exact thn hA fun us s2 ⟨vs, H2, I2, r2, q2⟩ => hm pins s2 σ H2 x vs v us Q I2 r1 r2 q2
theorem pe_bmG0 {o : Expr} {to : TE} {name : Str} {apos cpos : Pos} (ho : PE X o to) (hbase : attributeBase o name X.env (eval o X.env) = eval o X.env) (hline : (apos.endLine == cpos.line) = true) :
    PE X (.Call (.Attribute o name apos) [] [] cpos) (fun σ H Q => to σ H fun x H1 => ∃ (T id : String) (r : V → List V → Hp → VK → Prop), PlainAttrs T ∧ Slot T name id ∧ typeOf (.builtin id) = pure (.type "method_descriptor") ∧ MtR X id r ∧ tyV X.K T x H1 ∧ r x [] H1 Q) := by
  refine ⟨fun pins s σ H Q I h => ?_⟩
  refine wpAny_Call_method0_late hbase hline (thn (ho.run pins s σ H _ I h) fun v s1 ⟨x, H1, I1, r1, T, id, r, pa, slot, hty, hm, ty, q1⟩ => ?_)
  obtain ⟨h1, h2⟩ := tyV_is I1 r1 ty
  exact ⟨T, id, pa, slot, hty, h1, h2, Calls.callWith_builtin rfl (PySem.evalArgs_none (hm pins s1 σ H1 x [] v [] Q I1 r1 .nil q1))⟩
end
end Pi

set_option Elab.async false
set_option linter.all false
/-! Pi: the small language (names resolved) and its evaluator. -/
namespace Pi
open PySem L2

/-- a target: one slot, or a tuple of slots -/
inductive Tg where
  | one (i : Nat) | tup (is : List Nat)
deriving Inhabited, DecidableEq
mutual
inductive E where
  | var (i : Nat)
  | c (v : V)
  | glo (x : Str)
  | bin (op : Operator) (a b : E)
  | neg (a : E)
  | not (a : E)
  | cmp (op : CmpOp) (a b : E)
  | chain (op op' : CmpOp) (a b c : E)
  | and (a b : E)
  | or (a b : E)
  | ite (t a b : E)
  | tup (es : Es)
  | lst (es : Es)
  | ix (a b : E)
  | cut (a : E) (lo hi : Op)
  | rev (a : E)
  | call (x : Str) (es : Es)
  | blt (x : Str) (es : Es)
  | rgl (t : Bool) (es : Es)
  | mth (m : Str) (o : E) (es : Es)
  | lc (elt : E) (tg : Tg) (it : Ic) (test : E) (own : List Nat)
  | lc2 (elt : E) (tg : Tg) (it : Ic) (test : E) (tg1 : Tg) (it1 : Ic) (test1 : E) (own own1 : List Nat)
  | told (x : Str) (work : E)
  | isE (a : E) (x : Str)
  | fld (a : E) (f : Str)
inductive Op where
  | none | some (e : E)
inductive Es where
  | nil | cons (e : E) (es : Es) | star (e : E) (es : Es)
inductive Ic where
  | seq (e : E) | rng (es : Es) | enum (e : E) | zip (a b : E)
end
instance : Inhabited E := ⟨.var 0⟩
mutual
inductive Stm where
  | asg (tg : Tg) (e : E)
  | par (is : List Nat) (es : Es)
  | setix (o i e : E)
  | aug (i : Nat) (op : Operator) (e : E)
  | augix (o i : E) (op : Operator) (e : E)
  | drop (e : E)
  | ret (e : E)
  | retn
  | ife (t : E) (a b : Ss)
  | for_ (tg : Tg) (it : Ic) (b : Ss)
  | whil (t : E) (b : Ss)
  | raise (x : Str) (es : Es)
  | brk | cnt | pass
inductive Ss where
  | nil | cons (s : Stm) (ss : Ss)
end

/-- what a loop walks -/
inductive Src where
  | tup (ds : List D) | at (k : Nat) | rng (lo : Int) (n : Nat) | enu (s : Src) | zip (a b : Src)
/-- the i-th item: none: not told; some none: the end -/
def item (S : Sto) : Src → Nat → Option (Option D)
  | .tup ds, i => some ds[i]?
  | .at k, i => (match S[k]? with
    | some (.lst ds) => some ds[i]?
    | _ => none)
  | .rng lo n, i => some (if i < n then some (.int (lo + i)) else none)
  | .enu s, i => (match item S s i with
    | none => none
    | some none => some none
    | some (some d) => some (some (.tup [.int i, d])))
  | .zip a b, i => (match item S a i with
    | none => none
    | some none => some none
    | some (some d) => (match item S b i with
      | none => none
      | some none => some none
      | some (some e) => some (some (.tup [d, e]))))
def isTupD : D → Bool
  | .tup _ => true
  | _ => false
def srcOf (S : Sto) : D → Option Src
  | .tup ds => some (.tup ds)
  | .rol ds => some (.tup ds)
  | .obj k => (match S[k]? with
    | some (.lst _) => some (.at k)
    | _ => none)
  | _ => none

/-- a text too -/
def srcS (S : Sto) (d : D) : Option Src := match d with
  | .str z => some (.tup (z.cps.toList.map fun c => D.str ⟨#[c]⟩))
  | d => srcOf S d

/-- what the code around gives: calls of defs, of the told defs, the module's values, the exceptions -/
structure Par where
  call : Str → List D → Sto → Res D
  told : Str → Res D → Res D
  glo : Str → Option D
  exc : Str → List D → Option Ex
  hand : Option Ex
  sub : Str → Str → Option Bool
  fuel : Nat
  calm : Bool

def getV (ρ : Env) (i : Nat) : Option D := match ρ[i]? with
  | some (some d) => some d
  | _ => none
def setAll (ρ : Env) : List Nat → List D → Option Env
  | [], [] => some ρ
  | i :: is, d :: ds => setAll (ρ.set i (some d)) is ds
  | _, _ => none
def setT (ρ : Env) : Tg → D → Option Env
  | .one i, d => some (ρ.set i (some d))
  | .tup is, .tup ds => setAll ρ is ds
  | _, _ => none
def wipeD (ρ : Env) : List Nat → Env
  | [] => ρ
  | v :: vs => (wipeD ρ vs).set v none
def isB (d : D) (S : Sto) (k : Bool → Res D) : Res D := match d with
  | .bl b => k b
  | _ => .no
def rgOf (ds : List D) : Option (Int × Nat) := match ds with
  | [.int n] => if (decide (-(2 ^ 62) ≤ n) && decide (n ≤ 16777216)) = true then some (0, n.toNat) else none
  | [.int a, .int b] => if (decide (0 ≤ a) && decide (a ≤ 16777216) && decide (-16777216 ≤ b) && decide (b ≤ 16777216)) = true then some (a, (b - a).toNat) else none
  | _ => none
/-- a comprehension's turns -/
def lcLoop (src : Src) (turn : D → Sto → Res (Option D)) : Nat → Nat → List D → Sto → Res (List D)
  | 0, _, _, _ => .no
  | n + 1, i, acc, S => (match item S src i with
    | none => .no
    | some none => .ok acc S
    | some (some d) => (turn d S).bind fun r S1 => (match r with
      | none => lcLoop src turn n (i + 1) acc S1
      | some y => if acc.length < sizeLine then lcLoop src turn n (i + 1) (acc ++ [y]) S1 else .no))
/-- .. of two clauses: the inner turns add to what is there -/
def lcLoop2 (src : Src) (turn : D → List D → Sto → Res (List D)) : Nat → Nat → List D → Sto → Res (List D)
  | 0, _, _, _ => .no
  | n + 1, i, acc, S => (match item S src i with
    | none => .no
    | some none => .ok acc S
    | some (some d) => (turn d acc S).bind fun acc1 S1 => lcLoop2 src turn n (i + 1) acc1 S1)
def fldOf (f : Str) (e : Ex) : Option D := match e.fs with
  | some fs => (match fs.lookup f with
    | some v => (match D.ofV v with
      | .exn => none
      | d => some d)
    | none => none)
  | none => none
def argsOk (P : Par) (x : Str) : Bool := true

mutual
def ev (P : Par) : E → Env → Sto → Res D
  | .var i, ρ, S => okO (getV ρ i) S
  | .c v, _, S => .ok (D.ofV v) S
  | .glo x, _, S => okO (P.glo x) S
  | .bin op a b, ρ, S => (ev P a ρ S).bind fun x S1 => (ev P b ρ S1).bind fun y S2 => binop op x y S2
  | .neg a, ρ, S => (ev P a ρ S).bind fun x S1 => (match x with
    | .int i => .ok (.int (-i)) S1
    | _ => .no)
  | .not a, ρ, S => (ev P a ρ S).bind fun x S1 => isB x S1 fun b => .ok (.bl (!b)) S1
  | .cmp op a b, ρ, S => (ev P a ρ S).bind fun x S1 => (ev P b ρ S1).bind fun y S2 => okB (cmpop op x y S2) S2
  | .chain op op' a b c, ρ, S => (ev P a ρ S).bind fun x S1 => (ev P b ρ S1).bind fun y S2 => (match cmpop op x y S2 with
    | some true => (ev P c ρ S2).bind fun z S3 => okB (cmpop op' y z S3) S3
    | some false => .ok (.bl false) S2
    | none => .no)
  | .and a b, ρ, S => (ev P a ρ S).bind fun x S1 => isB x S1 fun k => if k = true then ev P b ρ S1 else .ok (.bl false) S1
  | .or a b, ρ, S => (ev P a ρ S).bind fun x S1 => isB x S1 fun k => if k = true then .ok (.bl true) S1 else ev P b ρ S1
  | .ite t a b, ρ, S => (ev P t ρ S).bind fun x S1 => isB x S1 fun k => if k = true then ev P a ρ S1 else ev P b ρ S1
  | .tup es, ρ, S => (evs P es ρ S).bind fun ds S1 => if ds.length ≤ sizeLine then .ok (.tup ds) S1 else .no
  | .lst es, ρ, S => (evs P es ρ S).bind fun ds S1 => newL ds S1
  | .ix a b, ρ, S => (ev P a ρ S).bind fun x S1 => (ev P b ρ S1).bind fun y S2 => ixD S2 x y
  | .cut a lo hi, ρ, S => (ev P a ρ S).bind fun x S1 => (evo P lo ρ S1).bind fun l S2 => (evo P hi ρ S2).bind fun h S3 => cutD S3 x l h
  | .rev a, ρ, S => (ev P a ρ S).bind fun x S1 => (match lstOf S1 x with
    | some ds => new (.lst ds.reverse) S1
    | none => .no)
  | .call x es, ρ, S => (evs P es ρ S).bind fun ds S1 => P.call x ds S1
  | .blt x es, ρ, S => (evs P es ρ S).bind fun ds S1 => bltn P.calm x ds S1
  | .rgl t es, ρ, S => (evs P es ρ S).bind fun ds S1 => (match rgOf ds with
    | some (a, n) => if t = true then .ok (.tup ((List.range n).map fun (i : Nat) => .int (a + i))) S1 else new (.lst ((List.range n).map fun (i : Nat) => .int (a + i))) S1
    | none => .no)
  | .mth m o es, ρ, S => (ev P o ρ S).bind fun x S1 => (match (recv S1 x).bind (mtId m) with
    | some _ => (evs P es ρ S1).bind fun ds S2 => meth m x ds S2
    | none => .no)
  | .lc elt tg it test own, ρ, S => (evi P it ρ S).bind fun src S1 =>
    (lcLoop src (fun d S2 => (match setT (wipeD ρ own) tg d with
      | none => .no
      | some ρ1 => (ev P test ρ1 S2).calm.bind fun b S3 => (match b with
        | .bl true => (ev P elt ρ1 S3).calm.bind fun y S4 => .ok (some y) S4
        | .bl false => .ok none S3
        | _ => .no))) P.fuel 0 [] S1).bind fun ds S2 => new (.lst ds) S2
  | .lc2 elt tg it test tg1 it1 test1 own own1, ρ, S => (evi P it ρ S).bind fun src S1 =>
    (lcLoop2 src (fun d acc S2 => (match setT (wipeD ρ own) tg d with
      | none => .no
      | some ρ1 => (ev P test ρ1 S2).calm.bind fun b S3 => (match b with
        | .bl true => (evi P it1 ρ1 S3).calm.bind fun src1 S4 =>
          lcLoop src1 (fun d1 S5 => (match setT (wipeD ρ1 own1) tg1 d1 with
            | none => .no
            | some ρ2 => (ev P test1 ρ2 S5).calm.bind fun b S6 => (match b with
              | .bl true => (ev P elt ρ2 S6).calm.bind fun y S7 => .ok (some y) S7
              | .bl false => .ok none S6
              | _ => .no))) P.fuel 0 acc S4
        | .bl false => .ok acc S3
        | _ => .no))) P.fuel 0 [] S1).bind fun ds S2 => new (.lst ds) S2
  | .told x w, ρ, S => P.told x (ev P w ρ S)
  | .isE a x, ρ, S => (ev P a ρ S).bind fun d S1 => (match d, P.hand with
    | .exn, some e => okB (P.sub e.cls x) S1
    | _, _ => .no)
  | .fld a f, ρ, S => (ev P a ρ S).bind fun d S1 => (match d, P.hand with
    | .exn, some e => okO (fldOf f e) S1
    | _, _ => .no)
def evo (P : Par) : Op → Env → Sto → Res (Option Int)
  | .none, _, S => .ok none S
  | .some e, ρ, S => (ev P e ρ S).bind fun x S1 => (match x with
    | .int i => .ok (some i) S1
    | _ => .no)
def evs (P : Par) : Es → Env → Sto → Res (List D)
  | .nil, _, S => .ok [] S
  | .cons e es, ρ, S => (ev P e ρ S).bind fun x S1 => (evs P es ρ S1).bind fun xs S2 => .ok (x :: xs) S2
  | .star e es, ρ, S => (ev P e ρ S).bind fun x S1 => (match seqOf S1 x with
    | some ds => (evs P es ρ S1).bind fun xs S2 => .ok (ds ++ xs) S2
    | none => .no)
def evi (P : Par) : Ic → Env → Sto → Res Src
  | .seq e, ρ, S => (ev P e ρ S).bind fun x S1 => (match srcS S1 x with
    | some s => .ok s S1
    | none => .no)
  | .rng es, ρ, S => (evs P es ρ S).bind fun ds S1 => (match rgOf ds with
    | some (a, n) => .ok (.rng a n) S1
    | none => .no)
  | .enum e, ρ, S => (ev P e ρ S).bind fun x S1 => (match srcOf S1 x with
    | some s => .ok (.enu s) S1
    | none => .no)
  | .zip a b, ρ, S => (ev P a ρ S).bind fun x S1 => (ev P b ρ S1).bind fun y S2 => (match srcOf S2 x, srcOf S2 y with
    | some s, some t => if isTupD x = isTupD y then .ok (.zip s t) S2 else .no
    | _, _ => .no)
end

/-- how a statement ends -/
inductive Fl where
  | nx (ρ : Env) | rt (d : D) | bk (ρ : Env) | ct (ρ : Env)
def nxO (o : Option Env) (S : Sto) : Res Fl := match o with
  | some ρ => .ok (.nx ρ) S
  | none => .no
def forLoop (src : Src) (tg : Tg) (body : Env → Sto → Res Fl) : Nat → Nat → Env → Sto → Res Fl
  | 0, _, _, _ => .no
  | n + 1, i, ρ, S => (match item S src i with
    | none => .no
    | some none => .ok (.nx ρ) S
    | some (some d) => (match setT ρ tg d with
      | none => .no
      | some ρ1 => (body ρ1 S).bind fun fl S1 => (match fl with
        | .nx ρ2 => forLoop src tg body n (i + 1) ρ2 S1
        | .ct ρ2 => forLoop src tg body n (i + 1) ρ2 S1
        | .bk ρ2 => .ok (.nx ρ2) S1
        | .rt d => .ok (.rt d) S1)))
def whileLoop (test : Env → Sto → Res D) (body : Env → Sto → Res Fl) : Nat → Env → Sto → Res Fl
  | 0, _, _ => .no
  | n + 1, ρ, S => (test ρ S).bind fun b S0 => (match b with
    | .bl false => .ok (.nx ρ) S0
    | .bl true => (body ρ S0).bind fun fl S1 => (match fl with
      | .nx ρ2 => whileLoop test body n ρ2 S1
      | .ct ρ2 => whileLoop test body n ρ2 S1
      | .bk ρ2 => .ok (.nx ρ2) S1
      | .rt d => .ok (.rt d) S1)
    | _ => .no)
mutual
def ex (P : Par) : Stm → Env → Sto → Res Fl
  | .asg tg e, ρ, S => (ev P e ρ S).bind fun d S1 => nxO (setT ρ tg d) S1
  | .par is es, ρ, S => (evs P es ρ S).bind fun ds S1 => nxO (setAll ρ is ds) S1
  | .setix o i e, ρ, S => (ev P e ρ S).bind fun d S1 => (ev P o ρ S1).bind fun x S2 => (ev P i ρ S2).bind fun k S3 => (setIx S3 x k d).bind fun _ S4 => .ok (.nx ρ) S4
  | .aug i op e, ρ, S => (match getV ρ i with
    | some x => (ev P e ρ S).bind fun y S1 => (match op, x, y with
      | .Add, .int a, .int b => .ok (.nx (ρ.set i (some (.int (a + b))))) S1
      | .Sub, .int a, .int b => .ok (.nx (ρ.set i (some (.int (a - b))))) S1
      | _, _, _ => .no)
    | none => .no)
  | .augix o i op e, ρ, S => (ev P o ρ S).bind fun x S1 => (ev P i ρ S1).bind fun k S2 => (ixD S2 x k).bind fun z S3 => (ev P e ρ S3).bind fun y S4 => (match op, z, y with
      | .Add, .int a, .int b => (setIx S4 x k (.int (a + b))).bind fun _ S5 => .ok (.nx ρ) S5
      | .Sub, .int a, .int b => (setIx S4 x k (.int (a - b))).bind fun _ S5 => .ok (.nx ρ) S5
      | _, _, _ => .no)
  | .drop e, ρ, S => (ev P e ρ S).bind fun _ S1 => .ok (.nx ρ) S1
  | .ret e, ρ, S => (ev P e ρ S).bind fun d S1 => .ok (.rt d) S1
  | .retn, _, S => .ok (.rt .non) S
  | .ife t a b, ρ, S => (ev P t ρ S).bind fun x S1 => (match x with
    | .bl true => exs P a ρ S1
    | .bl false => exs P b ρ S1
    | _ => .no)
  | .for_ tg it b, ρ, S => (evi P it ρ S).bind fun src S1 => forLoop src tg (fun ρ S => exs P b ρ S) P.fuel 0 ρ S1
  | .whil t b, ρ, S => whileLoop (fun ρ S => ev P t ρ S) (fun ρ S => exs P b ρ S) P.fuel ρ S
  | .raise x es, ρ, S => (evs P es ρ S).bind fun ds S1 => (match P.exc x ds with
    | some e => .er e S1
    | none => .no)
  | .brk, ρ, S => .ok (.bk ρ) S
  | .cnt, ρ, S => .ok (.ct ρ) S
  | .pass, ρ, S => .ok (.nx ρ) S
def exs (P : Par) : Ss → Env → Sto → Res Fl
  | .nil, ρ, S => .ok (.nx ρ) S
  | .cons s ss, ρ, S => (ex P s ρ S).bind fun fl S1 => (match fl with
    | .nx ρ1 => exs P ss ρ1 S1
    | fl => .ok fl S1)
end
end Pi

set_option Elab.async false
set_option linter.all false
set_option maxHeartbeats 1000000
namespace Pi
open PySem L2 PyProof.Rows

/-! ### enumerate over a tuple -/
theorem meets_enumerate_newB1 {v : Value} {o : Obj} {H : Heap → Prop} (B : Begins v o H) :
    Meets (Builtin.«enumerate.__new__» ⟨[.type "enumerate", v], []⟩) (fun _ R s => H s.heap ∧
      R (.ok (.ret (.ref (s.heap.push o).objs.size))) { s with heap := (s.heap.push o).push { cls := .type "enumerate", data := .fields #[.none, .bool false, .ref s.heap.objs.size, rawInt 0, .none, .none] } }) :=
  .of_wp fun prog w A R s h => by
    obtain ⟨hp, g, d, tk, os⟩ := s; obtain ⟨h1, h⟩ := h
    have hsub := sub_enumerate
    have q1 : ∀ {A' : Around} {E : Value → Shared → Prop} {Q : Value → Shared → Prop}, Q (.ref hp.objs.size) ⟨hp.push o, g, d, tk, os⟩ → wpAny (model prog w) A' (pyIter v) Q E ⟨hp, g, d, tk, os⟩ :=
      fun q => B.iter prog w _ _ ⟨hp, g, d, tk, os⟩ _ h1 q
    wp_walk using q1
    refine wpAny_stack_any fun st => wpAny_pure ?_
    split
    · rename_i c _ _ _ _ _
      cases (c == Value.type "enumerate")
      · wp_walk using q1
        exact ⟨_, rfl, h⟩
      · wp_walk using q1
        exact ⟨_, rfl, h⟩
    · wp_walk using q1
      exact ⟨_, rfl, h⟩
theorem enum_begins1 {prog : Program} {w : World} {A : Around} {E : Value → Shared → Prop} {s : Shared} {v : Value} {o : Obj} {H : Heap → Prop} {Q : Value → Shared → Prop} (B : Begins v o H) (h1 : H s.heap)
    (h : ∀ h', IsEnum h' (s.heap.objs.size + 1) s.heap.objs.size 0 .none → h'.get? s.heap.objs.size = some o → h'.objs.size = s.heap.objs.size + 2 →
      (∀ b o, s.heap.get? b = some o → h'.get? b = some o) → Q (.ref (s.heap.objs.size + 1)) { s with heap := h' }) :
    wpAny (model prog w) A (call (.type "enumerate") [v]) Q E s := by
  refine callType_new F.called_enumerate (by decide) (F.typeCall_enumerate_1 _) (F.newCall_enumerate_1 _) (fun obj => F.args_object_init_2 obj _) F.entry_enumerate_new
    (meets_enumerate_newB1 B) ⟨h1, ?_⟩
  have hz : (s.heap.push o).objs.size = s.heap.objs.size + 1 := Heap.size_push ..
  show _ ∧ _
  rw [hz]
  have he : IsEnum ((s.heap.push o).push { cls := .type "enumerate", data := .fields #[.none, .bool false, .ref s.heap.objs.size, rawInt 0, .none, .none] }) (s.heap.objs.size + 1) s.heap.objs.size 0 .none := by
    have := Heap.get?_push_size (s.heap.push o) (o := { cls := .type "enumerate", data := .fields #[.none, .bool false, .ref s.heap.objs.size, rawInt 0, .none, .none] }) rfl
    rw [hz] at this; exact this
  refine ⟨⟨_, he, rfl⟩, h _ he (Heap.get?_push_of_some _ (Heap.get?_push_size _ B.free)) (by rw [Heap.size_push, hz]) fun b o x => Heap.get?_push_of_some _ (Heap.get?_push_of_some _ x)⟩
/-- the tuple at a, each item in a new pair -/
def IteT (K : PySem.W.Frag) (a : Addr) (n : Nat) : L2.It :=
  ⟨fun i H => ∃ (xs : List V) (x : V), SqT K H a xs ∧ xs.length = n ∧ xs[i]? = some x, fun i H v H' => ∃ T x, v = .ref T ∧ H T = none ∧ H' = upd H T (.tup [.int (i : Nat), x]) ∧ ∀ xs, SqT K H a xs → xs[i]? = some x, fun i H => ∃ xs : List V, SqT K H a xs ∧ xs.length = n ∧ n ≤ i⟩
theorem turn_enumT {P : Program} {w : World} {K : PySem.W.Frag} {elts : List Expr} {kk : Nat} {tpos : Pos} (a e it : Addr) (n : Nat) :
    Turn P w K (.Tuple elts kk tpos) (IteT K a n) [e, it] e (fun i h => i ≤ n ∧ (∃ old, IsEnum h e it ((i : Nat) : Int) old) ∧ h.IsTupleIter it a i ∧ e ≠ it ∧ e ≠ a ∧ it ≠ a) where
  mem := by simp
  obj := fun i h st b hb => by
    obtain ⟨_, ⟨old, he⟩, ⟨o, ho, hc, hd⟩, _⟩ := st
    have e' : b = e ∨ b = it := by simpa using hb
    rcases e' with z | z
    · rw [z]; exact ⟨_, he, fun v q => nomatch q⟩
    · rw [z]; exact ⟨o, ho, fun v q => by rw [hd] at q; cases q⟩
  keep := fun i h h' st k => let ⟨h0, ⟨old, he⟩, hi, hne, h1, h2⟩ := st; ⟨h0, ⟨old, k e (by simp) _ he⟩, hi.at fun o q => k it (by simp) o q, hne, h1, h2⟩
  item := by
    intro X hP hw hK hc i pins s σ H E I hf st hg
    subst hP hw hK
    obtain ⟨hin, ⟨old, he⟩, hit, hne, ha1, ha2⟩ := st
    obtain ⟨xs, x, hq, hxn, hx⟩ := hg
    obtain ⟨its, rv, p, hz⟩ := I.tuple hq
    obtain ⟨u, hu, ru⟩ := rv.get hx
    have hel : e < s.heap.objs.size := Heap.lt_size he
    have hil : it < s.heap.objs.size := by obtain ⟨_, q, _⟩ := hit; exact Heap.lt_size q
    have hlt : i < its.toArray.size := by
      have := (List.getElem?_eq_some_iff.mp hu).1
      simpa using this
    refine wpAny_pyNext_enum_itemD (n := its.toArray.size) (fp := [it, a]) (Draws.tuple (A := X.A.in1) (I.ok.hd hc) it a (Ne.symm ha2) its.toArray) he ⟨hit, p⟩ hlt hne (by simp [hne, ha1]) fun u' h' tk hu' ho hst' hT hsz hk => ?_
    have eu : u' = u := by
      have : its.toArray[i]? = some u' := hu'
      rw [show its.toArray[i]? = some u by simpa using hu] at this
      exact (Option.some.inj this).symm
    subst eu
    refine ⟨_, rfl, wpAny_letOwnedTupleGo_enum (s := { s with heap := h', toks := tk + 1 }) ho fun h'' he' sb => ?_⟩
    have hT2 : h''.get? s.heap.objs.size = some { cls := .type "tuple", data := .seq #[.int i tk, u'] } := (sb.2 _ (Nat.ne_of_gt hel)).trans hT
    have new : ObjOk X.prog X.w (upd H s.heap.objs.size (.tup [.int (i : Nat), x])) h'' s.heap.objs.size (.tup [.int (i : Nat), x]) :=
      ⟨by show 2 ≤ sizeLine; decide, [.int i tk, u'], .cons ⟨_, rfl⟩ (.cons ru .nil), ⟨_, hT2, rfl, _, rfl⟩⟩
    have I1 : Inv X pins σ (upd H s.heap.objs.size (.tup [.int (i : Nat), x])) { s with heap := h'', toks := tk + 1 } :=
      I.turnedNew (ch := [e, it]) (fun b ob hb q => (sb.2 b (fun z => hb (by simp [z]))).trans (hk b ob (fun z => hb (by simp [z])) (fun z => hb (by simp [z])) q)) hf (Nat.le_refl _) new
    refine ⟨.ref s.heap.objs.size, _, I1, rfl, ⟨_, x, rfl, I.hok.fresh (Nat.le_refl _), rfl, fun ys hy => by rw [I.tuple_inj hy hq]; exact hx⟩, ⟨?_, ⟨u', ?_⟩, hst'.1.at fun o q => (sb.2 it (Ne.symm hne)).trans q, hne, ha1, ha2⟩, fun b hb => ?_⟩
    · have := (List.getElem?_eq_some_iff.mp hx).1
      omega
    · have e1 : ((i + 1 : Nat) : Int) = (i : Int) + 1 := by omega
      rw [e1]; exact he'
    · have hb' : b < s.heap.objs.size := by
        have e' : b = e ∨ b = it := by simpa using hb
        rcases e' with z | z
        · rw [z]; exact hel
        · rw [z]; exact hil
      rw [upd_ne (Nat.ne_of_lt hb')]
      exact (hf b hb).1
  done := by
    intro X hP hw hK hc i pins s σ H E I hf st hg
    subst hP hw hK
    obtain ⟨hin, ⟨old, he⟩, hit, hne, ha1, ha2⟩ := st
    obtain ⟨xs, hq, hxn, hx⟩ := hg
    obtain ⟨its, rv, p, hz⟩ := I.tuple hq
    obtain ⟨f0, f1, f2, f3, f4, f5⟩ := hf it (by simp)
    have hl := rv.length
    have hi : i = its.toArray.size := by
      rw [List.size_toArray]
      omega
    subst hi
    exact wpAny_pyNext_enum_endD (n := its.toArray.size) (fp := [it, a]) (Draws.tuple (A := X.A.in1) (I.ok.hd hc) it a (Ne.symm ha2) its.toArray) he ⟨hit, p⟩ fun h' eb => ⟨rfl, I.turned (t' := s.toks) (fun b o hb q => eb b o hb q) f0 f1 f3 f4 f5⟩
  self := fun A i s Q E st h => let ⟨_, ⟨_, he⟩, _⟩ := st; wpAny_pyIter_enum he h
end Pi

set_option Elab.async false
set_option linter.all false
/-! Pi: from the program's text to the small language. -/
namespace Pi
open PySem L2

/-- what a module's name is -/
inductive GK where
  | fn (arity : Nat) | told | cls (arity : Nat) | val
deriving DecidableEq, Inhabited
structure Cs where
  N : List Str
  sc : Scope
  fnc : List Str
  calm : Bool
  G : List (Str × GK)
  tk : Bool := false
  lm : Bool := false

def ixOf (x : Str) : List Str → Option Nat
  | [] => none
  | y :: r => if x = y then some 0 else (ixOf x r).map (· + 1)
def plainN (x : Str) : Bool := !(x == ("__debug__" : Str)) && !(x == ("__classdict__" : Str)) && !(x == ("__name__" : Str))
def slotOf (C : Cs) (x : Str) : Option Nat := if plainN x = true then (match C.sc.names.lookup x with
  | some .local => ixOf x C.N
  | some .cell => ixOf x C.N
  | some .free => ixOf x C.N
  | _ => none) else none
/-- a slot that may be stored -/
def storOf (C : Cs) (x : Str) : Option Nat := match C.sc.names.lookup x with
  | some .local => ixOf x C.N
  | some .cell => if x ∈ C.fnc then ixOf x C.N else none
  | _ => none
def isGl (C : Cs) (x : Str) : Bool := plainN x && decide (C.sc.names.lookup x = some .globalImplicit)
/-- a built-in's name, that the module leaves alone -/
def isBl (C : Cs) (x : Str) : Bool := isGl C x && (C.G.lookup x).isNone
def isCls (C : Cs) (x : Str) : Bool := match C.G.lookup x with
  | some (.cls _) => true
  | _ => false
/-- how many arguments make one -/
def clsAr (C : Cs) (x : Str) : Option Nat := match C.G.lookup x with
  | some (.cls k) => some k
  | _ => none
def noStar : List Expr → Bool
  | [] => true
  | .Starred _ _ :: _ => false
  | _ :: r => noStar r
def isComp : Expr → Bool
  | .ListComp .. => true
  | .SetComp .. => true
  | .DictComp .. => true
  | _ => false
def isSet : Expr → Bool
  | .Set .. => true
  | _ => false
def isSlice : Expr → Bool
  | .Slice .. => true
  | _ => false
def isTup : Expr → Bool
  | .Tuple .. => true
  | _ => false
def noCall0 : Expr → Bool
  | .Call _ [] [] _ => false
  | _ => true
def tyName (x : Str) : Option String :=
  if x = "int" then some "int" else if x = "bool" then some "bool" else if x = "str" then some "str" else if x = "tuple" then some "tuple" else if x = "list" then some "list" else none
def bltFns : List Str := ["len", "isinstance", "abs", "sorted", "max", "min", "sum", "all", "any"]
def bltTys : List Str := ["int", "str", "list", "tuple"]
def ownOf (N : List Str) : List (Str × NameKind) → List (Str × Nat)
  | [] => []
  | (x, .local) :: r => (match ixOf x N with
    | some i => (x, i) :: ownOf N r
    | none => ownOf N r)
  | (x, .cell) :: r => (match ixOf x N with
    | some i => (x, i) :: ownOf N r
    | none => ownOf N r)
  | _ :: r => ownOf N r
def blkCs (C : Cs) (scope : Scope) : Cs := { C with sc := relS scope C.sc, fnc := (scope.names.filter fun y => decide (scope.names.lookup y.1 = some .cell)).map (·.1), tk := false, lm := false }
def lamCs (C : Cs) (scope : Scope) : Cs := { C with sc := scope, fnc := [], calm := true, tk := false, lm := false }
def tgNames (C : Cs) : List Expr → Option (List Nat)
  | [] => some []
  | .Name x _ :: r => (match storOf C x, tgNames C r with
    | some i, some is => some (i :: is)
    | _, _ => none)
  | _ :: _ => none
/-- a target -/
def cT (C : Cs) : Expr → Option Tg
  | .Name x _ => (storOf C x).map .one
  | .Tuple es _ _ => if C.calm = true then (tgNames C es).map .tup else none
  | _ => none
def esN : Es → Option Nat
  | .nil => some 0
  | .cons _ es => (esN es).map (· + 1)
  | .star _ _ => none
def noArgs : Arguments → Bool
  | ⟨[], [], none, [], [], none, []⟩ => true
  | _ => false
def nmBool : List Expr → Bool
  | [] => false
  | _ => true

def tgSlots : Tg → List Nat
  | .one i => [i]
  | .tup is => is
mutual
def cE : Nat → Cs → Expr → Option E
  | 0, _, _ => none
  | f + 1, C, .Name x _ => (match slotOf C x with
    | some i => some (.var i)
    | none => if isGl C x = true then (match C.G.lookup x with
      | some .val => some (.glo x)
      | some _ => none
      | none => (tyName x).map fun t => .c (.ty t)) else none)
  | f + 1, C, .Constant (.int i) _ _ => some (.c (.int i))
  | f + 1, C, .Constant (.bool i) _ _ => some (.c (.bl i))
  | f + 1, C, .Constant (.str i) _ _ => some (.c (.str i))
  | f + 1, C, .Constant .none _ _ => some (.c .non)
  | f + 1, C, .BoolOp op es _ => cBool f C op es
  | f + 1, C, .BinOp a op b _ => (match cE f C a, cE f C b with
    | some x, some y => some (.bin op x y)
    | _, _ => none)
  | f + 1, C, .UnaryOp .USub a _ => (cE f C a).map .neg
  | f + 1, C, .UnaryOp .Not a _ => (cE f C a).map .not
  | f + 1, C, .IfExp t a b _ => (match cE f C t, cE f C a, cE f C b with
    | some z, some x, some y => some (.ite z x y)
    | _, _, _ => none)
  | f + 1, C, .Tuple es _ _ => (cEs f C es).map .tup
  | f + 1, C, .List es _ => (cEs f C es).map .lst
  | f + 1, C, .Compare a [op] [b] _ => if isSet b = true then none else (match cE f C a, cE f C b with
    | some x, some y => some (.cmp op x y)
    | _, _ => none)
  | f + 1, C, .Compare a [op, op'] [b, c] _ => if isSet c = true then none else (match cE f C a, cE f C b, cE f C c with
    | some x, some y, some z => some (.chain op op' x y z)
    | _, _, _ => none)
  | f + 1, C, .Subscript a (.Slice lo hi none _) _ => (match cE f C a, cO f C lo, cO f C hi with
    | some x, some l, some h => some (.cut x l h)
    | _, _, _ => none)
  | f + 1, C, .Subscript a (.Slice none none (some (.UnaryOp .USub (.Constant (.int 1) _ _) _)) _) _ => (cE f C a).map .rev
  | f + 1, C, .Subscript a b _ => if isSlice b = true then none else (match cE f C a, cE f C b with
    | some x, some y => some (.ix x y)
    | _, _ => none)
  | f + 1, C, .Attribute o m _ => if noCall0 o = true then (cE f C o).map fun x => .fld x m else none
  | f + 1, C, .Call (.Attribute o m apos) es [] pos => if (noCall0 o && noStar es && decide (es.length < 30) && apos.endLine == pos.line) = true then (match cE f C o, cEs f C es with
    | some x, some xs => some (.mth m x xs)
    | _, _ => none) else none
  | f + 1, C, .Call (.Name x _) es [] _ => if isGl C x = true then (match C.G.lookup x with
    | some (.fn n) => if (noStar es && decide (C.calm = true)) = true then (match cEs f C es with
        | some xs => if esN xs = some n then some (.call x xs) else none
        | none => none) else none
    | some .told => (match es with
      | [.Lambda params body scope _] => if (LamX.lamSB C.sc scope && C.lm && noArgs params) = true then (cE f (lamCs C scope) body).map (.told x) else none
      | _ => none)
    | some _ => none
    | none => cB f C x es) else none
  | f + 1, C, .ListComp elt [⟨tg, it, ifs, 0⟩] scope _ =>
    if (decide (C.calm = true) && blkC C.N C.sc scope (ownOf C.N scope.names) && !isSet it) = true then
      (match cI f C tg it, cT (blkCs C scope) tg, cIfs f (blkCs C scope) ifs, cE f (blkCs C scope) elt with
      | some i, some g, some t, some e => if ((tgSlots g).all fun j => decide (j ∈ (ownOf C.N scope.names).map (·.2))) = true then some (.lc e g i t ((ownOf C.N scope.names).map (·.2))) else none
      | _, _, _, _ => none) else none
  | f + 1, C, .ListComp elt [⟨tg, it, ifs, 0⟩, ⟨tg1, it1, ifs1, 0⟩] scope _ => none
  | _ + 1, _, _ => none
/-- a call of a built-in -/
def cB : Nat → Cs → Str → List Expr → Option E
  | 0, _, _, _ => none
  | f + 1, C, x, es => if noStar es = true then
      (match es with
      | [.Call (.Name y p) as [] q] => if (y = "range" ∧ (x = "list" ∨ x = "tuple")) then
          (if (isBl C "range" && noStar as && decide (C.calm = true)) = true then (match as with
            | [_] => (cEs f C as).map (.rgl (decide (x = "tuple")))
            | [_, _] => (cEs f C as).map (.rgl (decide (x = "tuple")))
            | _ => none) else none)
        else cB1 f C x es
      | [a, .Name y p] => if x = "isinstance" ∧ isCls C y = true ∧ isGl C y = true then (cE f C a).map fun e => .isE e y else cB1 f C x es
      | _ => cB1 f C x es) else none
def cB1 : Nat → Cs → Str → List Expr → Option E
  | 0, _, _, _ => none
  | f + 1, C, x, es => if ((decide (x ∈ bltFns) || decide (x ∈ bltTys)) && nmBool es) = true then (cEs f C es).map (.blt x) else none
def cBool : Nat → Cs → BoolOp → List Expr → Option E
  | 0, _, _, _ => none
  | f + 1, C, op, [] => none
  | f + 1, C, op, [a] => cE f C a
  | f + 1, C, op, a :: b :: r => (match cE f C a, cBool f C op (b :: r) with
    | some x, some y => some (match op with | .And => .and x y | .Or => .or x y)
    | _, _ => none)
def cO : Nat → Cs → Option Expr → Option Op
  | 0, _, _ => none
  | f + 1, C, none => some .none
  | f + 1, C, some e => (cE f C e).map .some
def cEs : Nat → Cs → List Expr → Option Es
  | 0, _, _ => none
  | f + 1, C, [] => some .nil
  | f + 1, C, .Starred e _ :: r => (match cE f C e, cEs f C r with
    | some x, some xs => some (.star x xs)
    | _, _ => none)
  | f + 1, C, e :: r => (match cE f C e, cEs f C r with
    | some x, some xs => some (.cons x xs)
    | _, _ => none)
def cIfs : Nat → Cs → List Expr → Option E
  | 0, _, _ => none
  | f + 1, C, [] => some (.c (.bl true))
  | f + 1, C, [t] => cE f C t
  | f + 1, C, _ => none
/-- what is walked, by the target's form -/
def cI : Nat → Cs → Expr → Expr → Option Ic
  | 0, _, _, _ => none
  | f + 1, C, tg, .Call (.Name x p) as [] q => if isBl C x = true ∧ x = "range" then (match as with
      | [_] => if noStar as = true then (cEs f C as).map .rng else none
      | [_, _] => if noStar as = true then (cEs f C as).map .rng else none
      | _ => none)
    else if isBl C x = true ∧ x = "enumerate" then (match as with
      | [a] => if (isTup tg && noStar as) = true then (cE f C a).map .enum else none
      | _ => none)
    else if isBl C x = true ∧ x = "zip" then (match as with
      | [a, b] => if (isTup tg && noStar as) = true then (match cE f C a, cE f C b with
        | some y, some z => some (.zip y z)
        | _, _ => none) else none
      | _ => none)
    else (cE f C (.Call (.Name x p) as [] q)).map .seq
  | f + 1, C, tg, e => (cE f C e).map .seq
end

/-! ### statements -/
def okAug : Operator → Bool
  | .Add => true
  | .Sub => true
  | _ => false
def isDoc : Expr → Bool
  | .Constant (.str _) _ _ => true
  | _ => false
def locs (C : Cs) : List Expr → Option (List (Str × Nat))
  | [] => some []
  | .Name x _ :: r => if C.sc.names.lookup x = some .local then (match ixOf x C.N, locs C r with
    | some i, some is => some ((x, i) :: is)
    | _, _ => none) else none
  | _ :: _ => none
def sameLine : List Expr → Bool
  | [] => true
  | e :: r => r.all fun x => x.pos.line == e.pos.line
mutual
def cS : Nat → Cs → Stmt → Option Stm
  | 0, _, _ => none
  | f + 1, C, .Assign [.Name x px] e pos => (match storOf C x, cE f C e with
    | some i, some v => if isComp e = true then
        (match e with
        | .ListComp _ [⟨_, _, _, 0⟩] scope cpos => if decide (C.sc.names.lookup x = some .local) = true then
            (if (px.line == cpos.line && decide (C.sc.kind = .function) && !(scope.names.any fun (n, k) => n == x && (k == .local || k == .cell))) = true then some (.asg (.one i) v) else none)
          else some (.asg (.one i) v)
        | _ => none)
      else some (.asg (.one i) v)
    | _, _ => none)
  | f + 1, C, .Assign [.Tuple [.Name x px, .Name y py] kt pt] (.Tuple [a, b] k2 pt2) pos =>
    if (decide (C.calm = true) && decide (C.sc.kind = .function) && decide (C.sc.names.lookup x = some .local) && decide (C.sc.names.lookup y = some .local) && decide (x ≠ y) && px.line == py.line && noStar [a, b] && !([a, b].all (foldedForSure 8)) && !([a, b].all (constantsAlone 8))) = true then
      (match ixOf x C.N, ixOf y C.N, cEs f C [a, b] with
      | some i, some j, some es => some (.par [i, j] es)
      | _, _, _ => none) else none
  | f + 1, C, .Assign [.Tuple [.Name x px, .Name y py, .Name z pz] kt pt] (.Tuple [a, b, c] k2 pt2) pos =>
    if (decide (C.calm = true) && decide (C.sc.kind = .function) && decide (C.sc.names.lookup x = some .local) && decide (C.sc.names.lookup y = some .local) && decide (C.sc.names.lookup z = some .local) && decide (x ≠ y) && decide (x ≠ z) && decide (y ≠ z) && px.line == py.line && px.line == pz.line && noStar [a, b, c] && !([a, b, c].all (foldedForSure 8)) && !([a, b, c].all (constantsAlone 8))) = true then
      (match ixOf x C.N, ixOf y C.N, ixOf z C.N, cEs f C [a, b, c] with
      | some i, some j, some l, some es => some (.par [i, j, l] es)
      | _, _, _, _ => none) else none
  | f + 1, C, .Assign [.Tuple ts kt pt] e pos => if (isTup e || isComp e) = true then none else (match cT C (.Tuple ts kt pt), cE f C e with
    | some g, some v => some (.asg g v)
    | _, _ => none)
  | f + 1, C, .Assign [.Subscript o i p] e pos => if (isSlice i || isComp e) = true then none else (match cE f C o, cE f C i, cE f C e with
    | some x, some k, some v => some (.setix x k v)
    | _, _, _ => none)
  | f + 1, C, .AugAssign (.Name x px) op e pos => (match storOf C x, cE f C e with
    | some i, some v => if okAug op = true then some (.aug i op v) else none
    | _, _ => none)
  | f + 1, C, .Expr e pos => if isDoc e = true then some .pass else if isComp e = true then none else (cE f C e).map .drop
  | f + 1, C, .Return (some e) _ => (cE f C e).map .ret
  | f + 1, C, .Return none _ => some .retn
  | f + 1, C, .If t a b _ => (match cE f C t, cSs f C a, cSs f C b with
    | some x, some y, some z => some (.ife x y z)
    | _, _, _ => none)
  | f + 1, C, .For tg it b [] _ => if (decide (C.calm = true) && C.tk && !isSet it) = true then (match cT C tg, cI f C tg it, cSs f C b with
    | some g, some i, some s => some (.for_ g i s)
    | _, _, _ => none) else none
  | f + 1, C, .While t b [] _ => if C.tk = true then (match cE f C t, cSs f C b with
    | some x, some s => some (.whil x s)
    | _, _ => none) else none
  | f + 1, C, .Raise (some (.Call (.Name x _) es [] _)) none _ => if (isGl C x && decide (clsAr C x = some es.length) && noStar es && C.calm && C.tk) = true then (cEs f C es).map (.raise x) else none
  | f + 1, C, .Break _ => some .brk
  | f + 1, C, .Continue _ => some .cnt
  | f + 1, C, .Pass _ => some .pass
  | _ + 1, _, _ => none
def cSs : Nat → Cs → List Stmt → Option Ss
  | 0, _, _ => none
  | f + 1, C, [] => some .nil
  | f + 1, C, s :: r => (match cS f C s, cSs f C r with
    | some x, some y => some (.cons x y)
    | _, _ => none)
end
end Pi

set_option Elab.async false
set_option linter.all false
set_option maxHeartbeats 1000000
namespace Pi
open PySem L2 PyProof.Rows

/-! ### environments -/
def EnvR (B : Bd) (m : List Addr) (H : Hp) (σ : L2.St) (ρ : Env) : Prop := σ.length = ρ.length ∧ ∀ (i : Nat) (d : D), ρ[i]? = some (some d) → ∃ v, σ[i]? = some (some v) ∧ Rep B m H v d
section
variable {B : Bd} {m m' : List Addr} {H H' : Hp} {S S' : Sto} {σ : L2.St} {ρ : Env}
theorem EnvR.ext (r : EnvR B m H σ ρ) (rel : Rel B m H S) (e : Ext m H m' H') : EnvR B m' H' σ ρ := ⟨r.1, fun i d h => by
  obtain ⟨v, h1, h2⟩ := r.2 i d h
  exact ⟨v, h1, h2.ext rel e⟩⟩
theorem EnvR.set (r : EnvR B m H σ ρ) {v : V} {d : D} (i : Nat) (h : Rep B m H v d) : EnvR B m H (σ.set i (some v)) (ρ.set i (some d)) := by
  refine ⟨by simpa using r.1, fun j e hj => ?_⟩
  by_cases hij : i = j
  · subst hij
    by_cases hi : i < ρ.length
    · rw [List.getElem?_set_self hi] at hj
      cases hj
      rw [List.getElem?_set_self (by rw [r.1]; exact hi)]
      exact ⟨v, rfl, h⟩
    · rw [List.getElem?_eq_none (by simpa using hi)] at hj
      cases hj
  · rw [List.getElem?_set_ne hij] at hj ⊢
    exact r.2 j e hj
theorem EnvR.setNone (r : EnvR B m H σ ρ) (i : Nat) : EnvR B m H (σ.set i none) (ρ.set i none) := by
  refine ⟨by simpa using r.1, fun j e hj => ?_⟩
  by_cases hij : i = j
  · subst hij
    by_cases hi : i < ρ.length
    · rw [List.getElem?_set_self hi] at hj
      cases hj
    · rw [List.getElem?_eq_none (by simpa using hi)] at hj
      cases hj
  · rw [List.getElem?_set_ne hij] at hj ⊢
    exact r.2 j e hj
theorem EnvR.wipe (r : EnvR B m H σ ρ) : ∀ vs : List Nat, EnvR B m H (L2.wipe σ vs) (wipeD ρ vs)
  | [] => r
  | v :: vs => (EnvR.wipe r vs).setNone v
theorem EnvR.get (r : EnvR B m H σ ρ) {i : Nat} {d : D} (h : getV ρ i = some d) : ∃ v, σ[i]? = some (some v) ∧ Rep B m H v d := by
  unfold getV at h
  split at h
  · rename_i e he
    cases h
    exact r.2 i _ he
  · cases h
end

/-! ### what is walked -/
def SrcRep (B : Bd) (m0 : List Addr) (H0 : Hp) (J : L2.It) (src : Src) : Prop := ∀ (i : Nat) (m : List Addr) (H : Hp) (S : Sto), Ext m0 H0 m H → Rel B m H S → match item S src i with
  | none => True
  | some none => J.stop i H
  | some (some d) => J.go i H ∧ ∀ x H', J.yld i H x H' → Ext m H m H' ∧ Rel B m H' S ∧ Rep B m H' x d
section
variable {B : Bd} {m0 : List Addr} {H0 : Hp} {S0 : Sto}
theorem Reps.item {m : List Addr} {H : Hp} {vs : List V} {ds : List D} (r : Reps B m H vs ds) (i : Nat) : match ds[i]? with
    | none => vs.length ≤ i
    | some d => ∃ v, vs[i]? = some v ∧ Rep B m H v d := by
  cases h : ds[i]? with
  | none =>
    rw [List.getElem?_eq_none_iff] at h
    rw [r.length]
    exact h
  | some d => exact r.get h
theorem src_tup (rel : Rel B m0 H0 S0) {a : Addr} {xs : List V} {ds : List D} (h : SqT B.K H0 a xs) (hr : Reps B m0 H0 xs ds) : SrcRep B m0 H0 (Itt B.K a) (.tup ds) := fun i m H S e rel' => by
  have h' := rel.sqt e h
  have q := (hr.ext rel e).item i
  show match some ds[i]? with | none => True | some none => _ | some (some d) => _
  cases hi : ds[i]? with
  | none =>
    rw [hi] at q
    exact ⟨xs, h', q⟩
  | some d =>
    rw [hi] at q
    obtain ⟨v, h1, h2⟩ := q
    refine ⟨⟨xs, v, h', h1⟩, fun x H' hy => ?_⟩
    obtain ⟨rfl, hy⟩ := hy
    have e1 := hy xs h'
    rw [h1] at e1
    cases e1
    exact ⟨Ext.refl, rel', h2⟩
theorem src_rol (rel : Rel B m0 H0 S0) {a : Addr} {xs : List V} {ds : List D} (h : RoL B.K H0 a xs) (hr : Reps B m0 H0 xs ds) : SrcRep B m0 H0 (Itl B.K a) (.tup ds) := fun i m H S e rel' => by
  have h' := (rel.rol e h).sq
  have q := (hr.ext rel e).item i
  show match some ds[i]? with | none => True | some none => _ | some (some d) => _
  cases hi : ds[i]? with
  | none =>
    rw [hi] at q
    exact ⟨xs, h', q⟩
  | some d =>
    rw [hi] at q
    obtain ⟨v, h1, h2⟩ := q
    refine ⟨⟨xs, v, h', h1⟩, fun x H' hy => ?_⟩
    obtain ⟨rfl, hy⟩ := hy
    have e1 := hy xs h'
    rw [h1] at e1
    cases e1
    exact ⟨Ext.refl, rel', h2⟩
theorem src_at {a : Addr} {k : Nat} (h : m0[k]? = some a) : SrcRep B m0 H0 (Itl B.K a) (.at k) := fun i m H S e rel' => by
  show match (match S[k]? with | some (.lst ds) => some ds[i]? | _ => none) with | none => True | some none => _ | some (some d) => _
  split
  · trivial
  · rename_i hk
    split at hk
    · rename_i ds hs
      obtain ⟨vs, h1, h2⟩ := rel'.ob _ _ _ (e.get h) hs
      have q := h2.item i
      rw [Option.some.inj hk] at q
      exact ⟨vs, .of h1, q⟩
    · cases hk
  · rename_i d hk
    split at hk
    · rename_i ds hs
      obtain ⟨vs, h1, h2⟩ := rel'.ob _ _ _ (e.get h) hs
      have q := h2.item i
      rw [Option.some.inj hk] at q
      obtain ⟨v, h3, h4⟩ := q
      refine ⟨⟨vs, v, .of h1, h3⟩, fun x H' hy => ?_⟩
      obtain ⟨rfl, hy⟩ := hy
      have e1 := hy vs (.of h1)
      rw [h3] at e1
      cases e1
      exact ⟨Ext.refl, rel', h4⟩
    · cases hk
theorem src_rng {lo : Int} {n : Nat} : SrcRep B m0 H0 (Itr lo n) (.rng lo n) := fun i m H S e rel' => by
  show match some (if i < n then some (D.int (lo + i)) else none) with | none => True | some none => _ | some (some d) => _
  by_cases hi : i < n
  · rw [if_pos hi]
    refine ⟨hi, fun x H' hy => ?_⟩
    obtain ⟨rfl, rfl⟩ := hy
    exact ⟨Ext.refl, rel', .int _⟩
  · rw [if_neg hi]
    exact Nat.le_of_not_lt hi
theorem rep_pair {m : List Addr} {H : Hp} {S : Sto} {p : Addr} {v w : V} {d e : D} (rel : Rel B m H S) (hp : H p = none) (hv : Rep B m H v d) (hw : Rep B m H w e) :
    Ext m H m (upd H p (.tup [v, w])) ∧ Rel B m (upd H p (.tup [v, w])) S ∧ Rep B m (upd H p (.tup [v, w])) (.ref p) (.tup [d, e]) :=
  ⟨Ext.new hp, rel.new0 hp, .tup (.of upd_same) (.cons (hv.ext rel (Ext.new hp)) (.cons (hw.ext rel (Ext.new hp)) .nil))⟩
theorem src_enuL {a : Addr} {src : Src} (h : SrcRep B m0 H0 (Itl B.K a) src) : SrcRep B m0 H0 (Ite B.K a) (.enu src) := fun i m H S e rel' => by
  have q := h i m H S e rel'
  show match (match item S src i with | none => none | some none => some none | some (some d) => some (some (D.tup [.int i, d]))) with | none => True | some none => _ | some (some d) => _
  cases hi : item S src i with
  | none => trivial
  | some o =>
    rw [hi] at q
    cases o with
    | none => exact q
    | some d =>
      obtain ⟨⟨vs, v, h1, h2⟩, h3⟩ := q
      refine ⟨⟨vs, v, h1, h2⟩, fun x H' hy => ?_⟩
      obtain ⟨T, y, rfl, hT, rfl, hy⟩ := hy
      have e1 := hy vs h1
      rw [h2] at e1
      cases e1
      obtain ⟨_, _, h4⟩ := h3 v H ⟨rfl, hy⟩
      exact rep_pair rel' hT (.int _) h4
theorem src_enuT (rel : Rel B m0 H0 S0) {a : Addr} {xs : List V} {ds : List D} (h : SqT B.K H0 a xs) (hr : Reps B m0 H0 xs ds) : SrcRep B m0 H0 (IteT B.K a xs.length) (.enu (.tup ds)) := fun i m H S e rel' => by
  have h' := rel.sqt e h
  have q := (hr.ext rel e).item i
  show match (match some ds[i]? with | none => none | some none => some none | some (some d) => some (some (D.tup [.int i, d]))) with | none => True | some none => _ | some (some d) => _
  cases hi : ds[i]? with
  | none =>
    rw [hi] at q
    exact ⟨xs, h', rfl, q⟩
  | some d =>
    rw [hi] at q
    obtain ⟨v, h1, h2⟩ := q
    refine ⟨⟨xs, v, h', rfl, h1⟩, fun x H' hy => ?_⟩
    obtain ⟨T, y, rfl, hT, rfl, hy⟩ := hy
    have e1 := hy xs h'
    rw [h1] at e1
    cases e1
    exact rep_pair rel' hT (.int _) h2
theorem src_zipL {a b : Addr} {s t : Src} (h : SrcRep B m0 H0 (Itl B.K a) s) (k : SrcRep B m0 H0 (Itl B.K b) t) (la : ∀ m H S, Ext m0 H0 m H → Rel B m H S → ∃ xs, SqL B.K H a xs) (lb : ∀ m H S, Ext m0 H0 m H → Rel B m H S → ∃ xs, SqL B.K H b xs) : SrcRep B m0 H0 (Itz B.K a b) (.zip s t) := fun i m H S e rel' => by
  have q := h i m H S e rel'
  have r := k i m H S e rel'
  show match (match item S s i with | none => none | some none => some none | some (some d) => (match item S t i with | none => none | some none => some none | some (some e) => some (some (D.tup [d, e])))) with | none => True | some none => _ | some (some d) => _
  cases hi : item S s i with
  | none => trivial
  | some o =>
    rw [hi] at q
    cases o with
    | none =>
      obtain ⟨vs, h1, h2⟩ := q
      obtain ⟨ws, h3⟩ := lb m H S e rel'
      exact ⟨vs, ws, h1, h3, .inl h2⟩
    | some d =>
      cases hj : item S t i with
      | none => trivial
      | some o =>
        rw [hj] at r
        obtain ⟨⟨vs, v, h1, h2⟩, h3⟩ := q
        cases o with
        | none =>
          obtain ⟨ws, h4, h5⟩ := r
          exact ⟨vs, ws, h1, h4, .inr h5⟩
        | some d' =>
          obtain ⟨⟨ws, w, h4, h5⟩, h6⟩ := r
          refine ⟨⟨vs, ws, v, w, h1, h4, h2, h5⟩, fun x H' hy => ?_⟩
          obtain ⟨T, y, z, rfl, hT, rfl, hy, hz⟩ := hy
          have e1 := hy vs h1
          rw [h2] at e1
          cases e1
          have e2 := hz ws h4
          rw [h5] at e2
          cases e2
          obtain ⟨_, _, h7⟩ := h3 v H ⟨rfl, hy⟩
          obtain ⟨_, _, h8⟩ := h6 w H ⟨rfl, hz⟩
          exact rep_pair rel' hT h7 h8
theorem src_zipT {a b : Addr} {s t : Src} (h : SrcRep B m0 H0 (Itt B.K a) s) (k : SrcRep B m0 H0 (Itt B.K b) t) (la : ∀ m H S, Ext m0 H0 m H → Rel B m H S → ∃ xs, SqT B.K H a xs) (lb : ∀ m H S, Ext m0 H0 m H → Rel B m H S → ∃ xs, SqT B.K H b xs) : SrcRep B m0 H0 (RZ.ItzT B.K a b) (.zip s t) := fun i m H S e rel' => by
  have q := h i m H S e rel'
  have r := k i m H S e rel'
  show match (match item S s i with | none => none | some none => some none | some (some d) => (match item S t i with | none => none | some none => some none | some (some e) => some (some (D.tup [d, e])))) with | none => True | some none => _ | some (some d) => _
  cases hi : item S s i with
  | none => trivial
  | some o =>
    rw [hi] at q
    cases o with
    | none =>
      obtain ⟨vs, h1, h2⟩ := q
      obtain ⟨ws, h3⟩ := lb m H S e rel'
      exact ⟨vs, ws, h1, h3, .inl h2⟩
    | some d =>
      cases hj : item S t i with
      | none => trivial
      | some o =>
        rw [hj] at r
        obtain ⟨⟨vs, v, h1, h2⟩, h3⟩ := q
        cases o with
        | none =>
          obtain ⟨ws, h4, h5⟩ := r
          exact ⟨vs, ws, h1, h4, .inr h5⟩
        | some d' =>
          obtain ⟨⟨ws, w, h4, h5⟩, h6⟩ := r
          refine ⟨⟨vs, ws, v, w, h1, h4, h2, h5⟩, fun x H' hy => ?_⟩
          obtain ⟨T, y, z, rfl, hT, rfl, hy, hz⟩ := hy
          have e1 := hy vs h1
          rw [h2] at e1
          cases e1
          have e2 := hz ws h4
          rw [h5] at e2
          cases e2
          obtain ⟨_, _, h7⟩ := h3 v H ⟨rfl, hy⟩
          obtain ⟨_, _, h8⟩ := h6 w H ⟨rfl, hz⟩
          exact rep_pair rel' hT h7 h8
end

/-! ### readings -/
def rG {α β : Type} (B : Bd) (R : List Addr → Hp → β → α → Prop) (W : WXH) (f : Env → Sto → Res α) : L2.St → Hp → (β → Hp → Prop) → Prop := fun σ H Q => ∃ m ρ S, Rel B m H S ∧ EnvR B m H σ ρ ∧ PostE B R (f ρ S) m H Q W
abbrev rE (B : Bd) (P : Par) (W : WXH) (x : E) : TE := rG B (Rep B) W (ev P x)
abbrev rEs (B : Bd) (P : Par) (W : WXH) (x : Es) : TA := rG B (Reps B) W (evs P x)
abbrev rO (B : Bd) (P : Par) (W : WXH) (x : Op) : TO := rG B (fun _ _ a b => a = b) W (evo P x)
abbrev rI (B : Bd) (P : Par) (W : WXH) (x : Ic) : TI := rG B (SrcRep B) W (evi P x)
section
variable {B : Bd} {α β γ δ : Type} {R : List Addr → Hp → β → α → Prop} {R2 : List Addr → Hp → δ → γ → Prop} {m : List Addr} {H : Hp} {S : Sto} {σ : L2.St} {ρ : Env} {W : WXH}
theorem step (f : Env → Sto → Res α) {k : α → Sto → Res γ} {Q : δ → Hp → Prop} {Q' : β → Hp → Prop} (rel : Rel B m H S) (er : EnvR B m H σ ρ) (h : PostE B R2 ((f ρ S).bind k) m H Q W)
    (hk : ∀ b m1 H1 S1 a, Ext m H m1 H1 → Rel B m1 H1 S1 → EnvR B m1 H1 σ ρ → R m1 H1 b a → PostE B R2 (k a S1) m1 H1 Q W → Q' b H1) : rG B R W f σ H Q' :=
  ⟨m, ρ, S, rel, er, PostE.mono (PostE.bind (R := R) h) (fun b H1 ⟨m1, S1, a, e, rel1, r, hp⟩ => hk b m1 H1 S1 a e rel1 (er.ext rel e) r hp) fun _ _ _ h => h⟩
/-- the same result handed on -/
theorem same (f : Env → Sto → Res α) {Q : β → Hp → Prop} (rel : Rel B m H S) (er : EnvR B m H σ ρ) (h : PostE B R (f ρ S) m H Q W) : rG B R W f σ H Q := ⟨m, ρ, S, rel, er, h⟩
theorem isB_ok {d : D} {k : Bool → Res α} {Q : β → Hp → Prop} (h : PostE B R (α := α) (match d with | .bl b => k b | _ => .no) m H Q W) : ∃ b, d = .bl b ∧ PostE B R (k b) m H Q W := by
  split at h
  · exact ⟨_, rfl, h⟩
  · exact h.elim
end
theorem PE.imp {X : Cx} {e : Expr} {t t' : TE} (h : PE X e t) (hi : ∀ σ H Q, t' σ H Q → t σ H Q) : PE X e t' := ⟨fun pins s σ H Q I hw => h.run pins s σ H Q I (hi _ _ _ hw)⟩
theorem PT.imp {X : Cx} {e : Expr} {t t' : TT} (h : PT X e t) (hi : ∀ σ H Q, t' σ H Q → t σ H Q) : PT X e t' := ⟨fun pins s σ H Q I hw => h.run pins s σ H Q I (hi _ _ _ hw)⟩
theorem PW.imp {X : Cx} {e : Expr} {t t' : TT} (h : PW X e t) (hi : ∀ σ H Q, t' σ H Q → t σ H Q) : PW X e t' := ⟨fun wh pins s σ H Q I hw => h.run wh pins s σ H Q I (hi _ _ _ hw)⟩
theorem PA.imp {X : Cx} {e : List Expr} {t t' : TA} (h : PA X e t) (hi : ∀ σ H Q, t' σ H Q → t σ H Q) : PA X e t' := ⟨fun pos pins s σ H Q I hw => h.run pos pins s σ H Q I (hi _ _ _ hw)⟩
theorem PI.imp {X : Cx} {tg e : Expr} {t t' : TI} (h : PI X tg e t) (hi : ∀ σ H Q, t' σ H Q → t σ H Q) : PI X tg e t' := ⟨fun pins s σ H Q I hw => h.run pins s σ H Q I (hi _ _ _ hw)⟩
theorem PS.imp {X : Cx} {st : Stmt} {t t' : TS} (h : PS X st t) (hi : ∀ D σ H, t' D σ H → t D σ H) : PS X st t' := ⟨fun pins s σ H D I hw => h.run pins s σ H D I (hi _ _ _ hw)⟩
theorem PSs.imp {X : Cx} {st : List Stmt} {t t' : TS} (h : PSs X st t) (hi : ∀ D σ H, t' D σ H → t D σ H) : PSs X st t' := ⟨fun pins s σ H D I hw => h.run pins s σ H D I (hi _ _ _ hw)⟩
theorem PO.imp {X : Cx} {e : Option Expr} {t t' : TO} (h : PO X e t) (hi : ∀ σ H Q, t' σ H Q → t σ H Q) : PO X e t' := ⟨fun pins s σ H Q I hw => h.run pins s σ H Q I (hi _ _ _ hw)⟩
theorem PTs.imp {X : Cx} {e : List Expr} {t t' : TT} (h : PTs X e t) (hi : ∀ σ H Q, t' σ H Q → t σ H Q) : PTs X e t' := ⟨fun pins s σ H Q I hw => h.run pins s σ H Q I (hi _ _ _ hw)⟩

/-! ### what a context must give -/
/-- a def's promise -/
def spC (B : Bd) (P : Par) (x : Str) (n : Nat) : Sp := fun vs H Q E => ∃ m S ds, Rel B m H S ∧ Reps B m H vs ds ∧ ds.length = n ∧ PostE B (Rep B) (P.call x ds S) m H Q E
structure FnG (X : Cx) (B : Bd) (P : Par) (x : Str) (n : Nat) : Prop where
  ex : ∃ (f : Addr) (fd : FuncData) (ps : List Str) (k : Nat), FnOk X.prog X.w X.K X.mg X.base (L2.CX X.prog X.w) k f fd ps (spC B P x n) ∧ Room k X.A ∧ X.mg x = some (.ref f) ∧ PySem.W.keepIn X.K (.ref f) = true ∧ Binds X.K fd ps []
def allB : List Str := ["len", "isinstance", "abs", "sorted", "max", "min", "sum", "all", "any", "int", "str", "list", "tuple", "bool", "range", "enumerate", "zip"]
/-- in an except suite: what is asked of the exception in hand -/
structure HandG (X : Cx) (B : Bd) (C : Cs) (P : Par) (W : WXH) : Prop where
  isE : ∀ (x : Str) (a : Expr) (w : E) (p p2 pos : Pos), isBl C "isinstance" = true → isCls C x = true → isGl C x = true → noStar [a] = true → PE X a (rE B P W w) → PE X (.Call (.Name "isinstance" p) [a, .Name x p2] [] pos) (rE B P W (.isE w x))
  fld : ∀ (f : Str) (a : Expr) (w : E) (pos : Pos), noCall0 a = true → PE X a (rE B P W w) → PE X (.Attribute a f pos) (rE B P W (.fld w f))
structure Okb (X : Cx) (B : Bd) (C : Cs) (P : Par) (W : WXH) : Prop where
  is : Is X B
  N : X.N = C.N
  nd : C.N.Nodup
  sc : X.env.scope = C.sc
  cm : C.calm = true → X.calm = true
  pc : P.calm = true → X.calm = true
  fnc : ∀ x ∈ C.fnc, X.fn x = true
  blt : ∀ x ∈ allB, C.G.lookup x = none → X.mg x = none
  glo : ∀ x d, P.glo x = some d → C.G.lookup x = some .val → ∃ v u, X.mg x = some u ∧ RelV v u ∧ ∀ m H, Rep B m H v d
  fn : ∀ x n, C.calm = true → C.G.lookup x = some (.fn n) → FnG X B P x n
  tk : Takes X (fun c d _ H => W c d H)
  cls : ∀ x, isCls C x = true → ∃ K, X.mg x = some (.ref K)
  hand : P.hand = none ∨ HandG X B C P W
  hc : C.calm = true → P.hand = none
structure Okc (X : Cx) (B : Bd) (C : Cs) (P : Par) (W : WXH) : Prop extends Okb X B C P W where
  told : C.lm = true → ∀ (x : Str) (params : Arguments) (body : Expr) (scope : Scope) (lpos p pos : Pos) (w : E), C.G.lookup x = some .told → isGl C x = true → LamX.lamSB C.sc scope = true → noArgs params = true →
    (∀ X' W', Okb X' B (lamCs C scope) P W' → PE X' body (rE B P W' w)) → PE X (.Call (.Name x p) [.Lambda params body scope lpos] [] pos) (rE B P W (.told x w))
end Pi

set_option Elab.async false
set_option linter.all false
set_option maxHeartbeats 2000000
namespace Pi
open PySem L2 PyProof.Rows

theorem ixOf_get {x : Str} : ∀ {N : List Str} {i : Nat}, ixOf x N = some i → N[i]? = some x
  | [], _, h => by cases h
  | y :: r, i, h => by
    unfold ixOf at h
    split at h
    · rename_i e
      cases h
      subst e
      rfl
    · obtain ⟨j, h1, rfl⟩ := Option.map_eq_some_iff.mp h
      have := ixOf_get h1
      simpa using this
structure PlN (x : Str) : Prop where
  d : (x == ("__debug__" : Str)) = false
  c : (x == ("__classdict__" : Str)) = false
  n : x ≠ "__name__"
theorem plN {x : Str} (h : plainN x = true) : PlN x := by
  unfold plainN at h
  simp only [Bool.and_eq_true, Bool.not_eq_true'] at h
  exact ⟨h.1.1, h.1.2, fun e => by subst e; exact absurd h.2 (by decide)⟩
theorem starEach_ns {e : Expr} {r : List Expr} {env : PySem.Env} (h : ∀ e' p, e = .Starred e' p → False) : starEach (e :: r) env = (false, eval e env) :: starEach r env := by
  cases e <;> first | rfl | exact (h _ _ rfl).elim
theorem noStar_cons {e : Expr} {r : List Expr} (h : noStar (e :: r) = true) : (∀ e' p, e = .Starred e' p → False) ∧ noStar r = true := by
  unfold noStar at h
  split at h
  · rename_i q
    cases q
  · cases h
  · rename_i q2 q1
    cases q1
    exact ⟨fun e' p q => by subst q; exact q2 _ _ rfl, h⟩
theorem star_any : ∀ {es : List Expr} {env : PySem.Env} {pos : Pos}, noStar es = true → (backTo pos (starEach es env)).any (·.1) = false
  | [], _, _, _ => rfl
  | e :: r, env, pos, h => by
    obtain ⟨h1, h2⟩ := noStar_cons h
    rw [starEach_ns h1]
    show (false || (backTo pos (starEach r env)).any (·.1)) = false
    rw [star_any h2]
    rfl
theorem star_all : ∀ {es : List Expr} {env : PySem.Env} {pos : Pos}, noStar es = true → (backTo pos (starEach es env)).all (fun x => !x.1) = true
  | [], _, _, _ => rfl
  | e :: r, env, pos, h => by
    obtain ⟨h1, h2⟩ := noStar_cons h
    rw [starEach_ns h1]
    show (true && (backTo pos (starEach r env)).all (fun x => !x.1)) = true
    rw [star_all h2]
    rfl
theorem mark_set {op : CmpOp} {b : Expr} (h : ¬ isSet b = true) : behindInMarks op b = false := by
  cases b <;> first | rfl | exact (h rfl).elim
theorem base_of {o : Expr} {m : Str} {env : PySem.Env} {wh : Sem Value} (h : noCall0 o = true) : attributeBase o m env wh = wh := by
  unfold attributeBase
  split
  · cases h
  · rfl
theorem plainIx {b : Expr} (h : ¬ isSlice b = true) : PlainIx b := fun o i => by
  cases b <;> first | rfl | exact (h rfl).elim

section
variable {X : Cx} {B : Bd} {C : Cs} {P : Par} {W : WXH}
theorem Okb.gl (ok : Okb X B C P W) {x : Str} (h : isGl C x = true) : Gl X x ∧ PlN x := by
  unfold isGl at h
  simp only [Bool.and_eq_true, decide_eq_true_eq] at h
  refine ⟨?_, plN h.1⟩
  show X.env.scope.names.lookup x = _
  rw [ok.sc]
  exact h.2
theorem Okb.bl (ok : Okb X B C P W) {x : Str} (h : isBl C x = true) (hx : x ∈ allB) : Gl X x ∧ PlN x ∧ X.mg x = none := by
  unfold isBl at h
  simp only [Bool.and_eq_true, Option.isNone_iff_eq_none] at h
  obtain ⟨h1, h2⟩ := ok.gl h.1
  exact ⟨h1, h2, ok.blt x hx h.2⟩
/-- a value as a test -/
theorem pt_of {e : Expr} {t : TE} (h : PE X e t) (he : ∀ env wh, isTrue e env wh = (do let v ← wh; standAt e.pos; holding [v] (truthy v)) := by intro _ _; rfl) : PT X e (tB t) := pt_val h (he _)

theorem s_var (ok : Okb X B C P W) {x : Str} {i : Nat} {pos : Pos} (h : slotOf C x = some i) : PE X (.Name x pos) (rE B P W (.var i)) := by
  unfold slotOf at h
  split at h
  · rename_i hp
    have pl := plN hp
    have key : ixOf x C.N = some i ∧ Vis X.env.scope x := by
      unfold Vis
      rw [ok.sc]
      split at h <;> first | exact ⟨h, by simp [*]⟩ | cases h
    refine PE.imp (pe_var (i := i) (by rw [ok.N]; exact ixOf_get key.1) key.2 pl.d pl.c) fun σ H Q ⟨m, ρ, S, rel, er, h⟩ => ?_
    obtain ⟨d, h1, h2⟩ := okO_ok h
    obtain ⟨v, h3, h4⟩ := er.get h1
    exact ⟨v, h3, h2 m H v Ext.refl rel h4⟩
  · cases h
theorem s_c {e : Expr} {v : V} (h : PE X e (tC v)) (hr : ∀ m H, Rep B m H v (D.ofV v)) : PE X e (rE B P W (.c v)) :=
  PE.imp h fun σ H Q ⟨m, ρ, S, rel, er, h⟩ => h m H v Ext.refl rel (hr m H)
theorem s_glo (ok : Okb X B C P W) {x : Str} {pos : Pos} (hg : isGl C x = true) (hk : C.G.lookup x = some .val) : PE X (.Name x pos) (rE B P W (.glo x)) := by
  obtain ⟨g1, g2⟩ := ok.gl hg
  cases hd : P.glo x with
  | none => exact ⟨fun pins s σ H Q I ⟨m, ρ, S, rel, er, h⟩ => by
      have h : PostE B (Rep B) (okO (P.glo x) S) m H Q W := h
      rw [hd] at h
      exact h.elim⟩
  | some d =>
    obtain ⟨v, u, h1, h2, h3⟩ := ok.glo x d hd hk
    refine PE.imp (pe_glob g1 h1 h2 g2.d) fun σ H Q ⟨m, ρ, S, rel, er, h⟩ => ?_
    have h : PostE B (Rep B) (okO (P.glo x) S) m H Q W := h
    rw [hd] at h
    exact h m H v Ext.refl rel (h3 m H)
theorem tyName_blt {x : Str} {t : String} (h : tyName x = some t) : x ∈ allB ∧ bootBuiltins x = some (.type t) := by
  unfold tyName at h
  split at h
  · rename_i e; subst e; cases h; exact ⟨by decide, boot_int⟩
  split at h
  · rename_i e; subst e; cases h; exact ⟨by decide, boot_bool⟩
  split at h
  · rename_i e; subst e; cases h; exact ⟨by decide, boot_str⟩
  split at h
  · rename_i e; subst e; cases h; exact ⟨by decide, boot_tuple⟩
  split at h
  · rename_i e; subst e; cases h; exact ⟨by decide, boot_list⟩
  cases h
theorem s_ty (ok : Okb X B C P W) {x : Str} {t : String} {pos : Pos} (hg : isGl C x = true) (hk : C.G.lookup x = none) (ht : tyName x = some t) : PE X (.Name x pos) (rE B P W (.c (.ty t))) := by
  obtain ⟨h1, h2⟩ := tyName_blt ht
  obtain ⟨g1, g2⟩ := ok.gl hg
  exact s_c (pe_bltn g1 (ok.blt x h1 hk) h2 rfl g2.n g2.d) fun m H => .ty t
theorem s_bin (ok : Okb X B C P W) {a b : Expr} {x y : E} {op : Operator} {pos : Pos} (ha : PE X a (rE B P W x)) (hb : PE X b (rE B P W y)) : PE X (.BinOp a op b pos) (rE B P W (.bin op x y)) :=
  PE.imp (pe_op (op_rB (W := W) ok.is) ha hb) fun σ H Q ⟨m, ρ, S, rel, er, h⟩ => step (ev P x) rel er h fun v m1 H1 S1 d e1 rel1 er1 r1 h1 =>
    step (ev P y) rel1 er1 h1 fun w m2 H2 S2 d2 e2 rel2 er2 r2 h2 => ⟨m2, S2, d, d2, rel2, r1.ext rel1 e2, r2, h2⟩
theorem s_neg {a : Expr} {x : E} {pos : Pos} (ha : PE X a (rE B P W x)) : PE X (.UnaryOp .USub a pos) (rE B P W (.neg x)) :=
  PE.imp (pe_un un_neg ha) fun σ H Q ⟨m, ρ, S, rel, er, h⟩ => step (ev P x) rel er h fun v m1 H1 S1 d e1 rel1 er1 r1 h1 => by
    split at h1
    · cases r1
      exact ⟨_, rfl, h1 m1 H1 _ Ext.refl rel1 (.int _)⟩
    · exact h1.elim
theorem s_not {a : Expr} {x : E} {pos : Pos} (ha : PE X a (rE B P W x)) : PE X (.UnaryOp .Not a pos) (rE B P W (.not x)) :=
  PE.imp (pe_not ha) fun σ H Q ⟨m, ρ, S, rel, er, h⟩ => step (ev P x) rel er h fun v m1 H1 S1 d e1 rel1 er1 r1 h1 => by
    obtain ⟨b, rfl, g1⟩ := isB_ok h1
    cases r1
    exact ⟨_, rfl, g1 m1 H1 _ Ext.refl rel1 (.bl _)⟩
theorem st_not {a : Expr} {x : E} {pos : Pos} (ha : PT X a (tB (rE B P W x))) : PT X (.UnaryOp .Not a pos) (tB (rE B P W (.not x))) :=
  PT.imp (pt_not ha) fun σ H Q ⟨m, ρ, S, rel, er, h⟩ => step (ev P x) rel er h fun v m1 H1 S1 d e1 rel1 er1 r1 h1 => by
    obtain ⟨b, rfl, g1⟩ := isB_ok h1
    cases r1
    obtain ⟨c, e, q⟩ := g1 m1 H1 _ Ext.refl rel1 (.bl _)
    cases e
    exact ⟨_, rfl, q⟩
theorem cmp_read (ok : Okb X B C P W) {x y : E} {op : CmpOp} (σ : L2.St) (H : Hp) (Q : VK) (h : rE B P W (.cmp op x y) σ H Q) : tOp (rC B op) (rE B P W x) (rE B P W y) σ H Q := by
  obtain ⟨m, ρ, S, rel, er, h⟩ := h
  refine step (ev P x) rel er h fun v m1 H1 S1 d e1 rel1 er1 r1 h1 => step (ev P y) rel1 er1 h1 fun w m2 H2 S2 d2 e2 rel2 er2 r2 h2 => ?_
  obtain ⟨b, h3, h4⟩ := okB_ok h2
  exact ⟨m2, S2, d, d2, b, rel2, r1.ext rel1 e2, r2, h3, h4 m2 H2 _ Ext.refl rel2 (.bl _)⟩
theorem s_cmp (ok : Okb X B C P W) {a b : Expr} {x y : E} {op : CmpOp} {pos : Pos} (hs : ¬ isSet b = true) (ha : PE X a (rE B P W x)) (hb : PE X b (rE B P W y)) : PE X (.Compare a [op] [b] pos) (rE B P W (.cmp op x y)) :=
  PE.imp (pe_cmpR (op_rC ok.is) ha hb (mark_set hs)) (cmp_read ok)
theorem st_cmp (ok : Okb X B C P W) {a b : Expr} {x y : E} {op : CmpOp} {pos : Pos} (hs : ¬ isSet b = true) (ha : PE X a (rE B P W x)) (hb : PE X b (rE B P W y)) : PT X (.Compare a [op] [b] pos) (tB (rE B P W (.cmp op x y))) :=
  PT.imp (pt_cmpR (op_rC ok.is) ha hb (mark_set hs)) fun σ H Q h => cmp_read ok σ H _ h
theorem chain_read (ok : Okb X B C P W) {x y z : E} {op op' : CmpOp} (σ : L2.St) (H : Hp) (Q : VK) (h : rE B P W (.chain op op' x y z) σ H Q) : tChain (rC B op) (rC B op') (rE B P W x) (rE B P W y) (rE B P W z) σ H Q := by
  obtain ⟨m, ρ, S, rel, er, h⟩ := h
  refine step (ev P x) rel er h fun v m1 H1 S1 d e1 rel1 er1 r1 h1 => step (ev P y) rel1 er1 h1 fun w m2 H2 S2 d2 e2 rel2 er2 r2 h2 => ?_
  split at h2
  · rename_i hc
    refine ⟨m2, S2, d, d2, true, rel2, r1.ext rel1 e2, r2, hc, true, rfl, ?_⟩
    rw [if_pos rfl]
    refine step (ev P z) rel2 er2 h2 fun u m3 H3 S3 d3 e3 rel3 er3 r3 h3 => ?_
    obtain ⟨b, h4, h5⟩ := okB_ok h3
    exact ⟨m3, S3, d2, d3, b, rel3, r2.ext rel2 e3, r3, h4, h5 m3 H3 _ Ext.refl rel3 (.bl _)⟩
  · rename_i hc
    refine ⟨m2, S2, d, d2, false, rel2, r1.ext rel1 e2, r2, hc, false, rfl, ?_⟩
    rw [if_neg Bool.false_ne_true]
    exact h2 m2 H2 _ Ext.refl rel2 (.bl _)
  · exact h2.elim
theorem s_chain (ok : Okb X B C P W) {a b c : Expr} {x y z : E} {op op' : CmpOp} {pos : Pos} (hs : ¬ isSet c = true) (ha : PE X a (rE B P W x)) (hb : PE X b (rE B P W y)) (hc : PE X c (rE B P W z)) : PE X (.Compare a [op, op'] [b, c] pos) (rE B P W (.chain op op' x y z)) :=
  PE.imp (pe_chain (op_rC ok.is) (op_rC ok.is) ha hb hc (mark_set (op := op') hs)) (chain_read ok)
theorem st_chain (ok : Okb X B C P W) {a b c : Expr} {x y z : E} {op op' : CmpOp} {pos : Pos} (hs : ¬ isSet c = true) (ha : PE X a (rE B P W x)) (hb : PE X b (rE B P W y)) (hc : PE X c (rE B P W z)) : PT X (.Compare a [op, op'] [b, c] pos) (tB (rE B P W (.chain op op' x y z))) :=
  PT.imp (pt_chain (op_rC ok.is) (op_rC ok.is) ha hb hc (mark_set (op := op') hs)) fun σ H Q h => chain_read ok σ H _ h
theorem s_and {a b : Expr} {r : List Expr} {x y : E} {pos : Pos} (ha : PE X a (rE B P W x)) (hb : PE X (.BoolOp .And (b :: r) pos) (rE B P W y)) : PE X (.BoolOp .And (a :: b :: r) pos) (rE B P W (.and x y)) :=
  PE.imp (pe_and ha hb) fun σ H Q ⟨m, ρ, S, rel, er, h⟩ => step (ev P x) rel er h fun v m1 H1 S1 d e1 rel1 er1 r1 h1 => by
    obtain ⟨b, rfl, g1⟩ := isB_ok h1
    cases r1
    refine ⟨b, rfl, ?_⟩
    cases b with
    | true =>
      rw [if_pos rfl] at g1 ⊢
      exact same (ev P y) rel1 er1 g1
    | false =>
      rw [if_neg Bool.false_ne_true] at g1 ⊢
      exact g1 m1 H1 _ Ext.refl rel1 (.bl _)
theorem s_or {a b : Expr} {r : List Expr} {x y : E} {pos : Pos} (ha : PE X a (rE B P W x)) (hb : PE X (.BoolOp .Or (b :: r) pos) (rE B P W y)) : PE X (.BoolOp .Or (a :: b :: r) pos) (rE B P W (.or x y)) :=
  PE.imp (pe_or ha hb) fun σ H Q ⟨m, ρ, S, rel, er, h⟩ => step (ev P x) rel er h fun v m1 H1 S1 d e1 rel1 er1 r1 h1 => by
    obtain ⟨b, rfl, g1⟩ := isB_ok h1
    cases r1
    refine ⟨b, rfl, ?_⟩
    cases b with
    | true =>
      rw [if_pos rfl] at g1 ⊢
      exact g1 m1 H1 _ Ext.refl rel1 (.bl _)
    | false =>
      rw [if_neg Bool.false_ne_true] at g1 ⊢
      exact same (ev P y) rel1 er1 g1
theorem sw_and {a b : Expr} {r : List Expr} {x y : E} {pos : Pos} (ha : PT X a (tB (rE B P W x))) (hb : PW X (.BoolOp .And (b :: r) pos) (tB (rE B P W y))) : PW X (.BoolOp .And (a :: b :: r) pos) (tB (rE B P W (.and x y))) :=
  PW.imp (pw_and ha hb) fun σ H Q ⟨m, ρ, S, rel, er, h⟩ => step (ev P x) rel er h fun v m1 H1 S1 d e1 rel1 er1 r1 h1 => by
    obtain ⟨b, rfl, g1⟩ := isB_ok h1
    cases r1
    refine ⟨b, rfl, ?_⟩
    cases b with
    | true =>
      rw [if_pos rfl] at g1 ⊢
      exact same (ev P y) rel1 er1 g1
    | false =>
      rw [if_neg Bool.false_ne_true] at g1 ⊢
      obtain ⟨c, e, q⟩ := g1 m1 H1 _ Ext.refl rel1 (.bl _)
      cases e
      exact q
theorem sw_or {a b : Expr} {r : List Expr} {x y : E} {pos : Pos} (ha : PT X a (tB (rE B P W x))) (hb : PW X (.BoolOp .Or (b :: r) pos) (tB (rE B P W y))) : PW X (.BoolOp .Or (a :: b :: r) pos) (tB (rE B P W (.or x y))) :=
  PW.imp (pw_or ha hb) fun σ H Q ⟨m, ρ, S, rel, er, h⟩ => step (ev P x) rel er h fun v m1 H1 S1 d e1 rel1 er1 r1 h1 => by
    obtain ⟨b, rfl, g1⟩ := isB_ok h1
    cases r1
    refine ⟨b, rfl, ?_⟩
    cases b with
    | true =>
      rw [if_pos rfl] at g1 ⊢
      obtain ⟨c, e, q⟩ := g1 m1 H1 _ Ext.refl rel1 (.bl _)
      cases e
      exact q
    | false =>
      rw [if_neg Bool.false_ne_true] at g1 ⊢
      exact same (ev P y) rel1 er1 g1
theorem ite_read {x y z : E} {σ : L2.St} {H : Hp} {Q : VK} (h : rE B P W (.ite z x y) σ H Q) : tB (rE B P W z) σ H fun c H1 => if c = true then rE B P W x σ H1 Q else rE B P W y σ H1 Q := by
  obtain ⟨m, ρ, S, rel, er, h⟩ := h
  refine step (ev P z) rel er h fun v m1 H1 S1 d e1 rel1 er1 r1 h1 => ?_
  obtain ⟨b, rfl, g1⟩ := isB_ok h1
  cases r1
  refine ⟨b, rfl, ?_⟩
  cases b with
  | true =>
    rw [if_pos rfl] at g1 ⊢
    exact same (ev P x) rel1 er1 g1
  | false =>
    rw [if_neg Bool.false_ne_true] at g1 ⊢
    exact same (ev P y) rel1 er1 g1
theorem s_ite {c a b : Expr} {x y z : E} {pos : Pos} (hc : PT X c (tB (rE B P W z))) (ha : PE X a (rE B P W x)) (hb : PE X b (rE B P W y)) : PE X (.IfExp c a b pos) (rE B P W (.ite z x y)) :=
  PE.imp (pe_ifExp hc ha hb) fun σ H Q h => ite_read h
theorem st_ite {c a b : Expr} {x y z : E} {pos : Pos} (hc : PT X c (tB (rE B P W z))) (ha : PT X a (tB (rE B P W x))) (hb : PT X b (tB (rE B P W y))) : PT X (.IfExp c a b pos) (tB (rE B P W (.ite z x y))) := by
  refine ⟨fun pins s σ H Q I h => ?_⟩
  refine isTrue_IfExp (thn (hc.run pins s σ H _ I (ite_read h)) fun d s1 ⟨H1, I1, q1⟩ => ?_)
  cases d with
  | true =>
    rw [if_pos rfl] at q1 ⊢
    exact ha.run pins s1 σ H1 Q I1 q1
  | false =>
    rw [if_neg Bool.false_ne_true] at q1 ⊢
    exact hb.run pins s1 σ H1 Q I1 q1
end
end Pi

set_option Elab.async false
set_option linter.all false
set_option maxHeartbeats 2000000
namespace Pi
open PySem L2 PyProof.Rows
section
variable {X : Cx} {B : Bd} {C : Cs} {P : Par} {W : WXH}
/-! ### argument lists -/
theorem s_nil : PA X [] (rEs B P W .nil) := PA.imp pa_nil fun σ H Q ⟨m, ρ, S, rel, er, h⟩ => h m H [] Ext.refl rel .nil
theorem s_cons {e : Expr} {es : List Expr} {x : E} {xs : Es} (hn : ∀ e' p, e = .Starred e' p → False) (h : PE X e (rE B P W x)) (hs : PA X es (rEs B P W xs)) : PA X (e :: es) (rEs B P W (.cons x xs)) :=
  PA.imp (pa_cons h hs (starEach_ns hn)) fun σ H Q ⟨m, ρ, S, rel, er, h⟩ => step (ev P x) rel er h fun v m1 H1 S1 d e1 rel1 er1 r1 h1 =>
    step (evs P xs) rel1 er1 h1 fun vs m2 H2 S2 ds e2 rel2 er2 r2 h2 => h2 m2 H2 _ Ext.refl rel2 (.cons (r1.ext rel1 e2) r2)
theorem s_star (ok : Okb X B C P W) {e : Expr} {es : List Expr} {x : E} {xs : Es} {p : Pos} (h : PE X e (rE B P W x)) (hs : PA X es (rEs B P W xs)) : PA X (.Starred e p :: es) (rEs B P W (.star x xs)) :=
  PA.imp (StX.pa_star h hs) fun σ H Q ⟨m, ρ, S, rel, er, h⟩ => step (ev P x) rel er h fun v m1 H1 S1 d e1 rel1 er1 r1 h1 => by
    split at h1
    · rename_i ds hd
      obtain ⟨a, vs, rfl, h3, h4⟩ := r1.seq rel1 hd
      rw [← ok.is.K] at h3
      refine ⟨a, vs, rfl, h3.symm, ?_⟩
      exact step (evs P xs) rel1 er1 h1 fun ws m2 H2 S2 es e2 rel2 er2 r2 h2 => h2 m2 H2 _ Ext.refl rel2 ((h4.ext rel1 e2).append r2)
    · exact h1.elim
theorem s_tup {es : List Expr} {xs : Es} {k : Nat} {pos : Pos} (hs : PA X es (rEs B P W xs)) : PE X (.Tuple es k pos) (rE B P W (.tup xs)) :=
  PE.imp (pe_tup hs) fun σ H Q ⟨m, ρ, S, rel, er, h⟩ => step (evs P xs) rel er h fun vs m1 H1 S1 ds e1 rel1 er1 r1 h1 => by
    split at h1
    · rename_i hz
      exact ⟨by rw [r1.length]; exact hz, fun p hp => rep_tup rel1 r1 hp h1⟩
    · exact h1.elim
theorem s_lst {es : List Expr} {xs : Es} {pos : Pos} (hs : PA X es (rEs B P W xs)) : PE X (.List es pos) (rE B P W (.lst xs)) :=
  PE.imp (pe_lst hs) fun σ H Q ⟨m, ρ, S, rel, er, h⟩ => step (evs P xs) rel er h fun vs m1 H1 S1 ds e1 rel1 er1 r1 h1 => by
    unfold newL at h1
    split at h1
    · rename_i hz
      exact ⟨by rw [r1.length]; exact hz, fun p hp => rep_new rel1 r1 hp h1⟩
    · exact h1.elim
theorem s_ix (ok : Okb X B C P W) {a b : Expr} {x y : E} {pos : Pos} (hs : ¬ isSlice b = true) (ha : PE X a (rE B P W x)) (hb : PE X b (rE B P W y)) : PE X (.Subscript a b pos) (rE B P W (.ix x y)) :=
  PE.imp (pe_ix (ix_rB (W := W) ok.is) ha hb (plainIx hs)) fun σ H Q ⟨m, ρ, S, rel, er, h⟩ => step (ev P x) rel er h fun v m1 H1 S1 d e1 rel1 er1 r1 h1 =>
    step (ev P y) rel1 er1 h1 fun w m2 H2 S2 d2 e2 rel2 er2 r2 h2 => ⟨m2, S2, d, d2, rel2, r1.ext rel1 e2, r2, h2⟩
theorem s_oN : PO X none (rO B P W .none) := PO.imp po_none fun σ H Q ⟨m, ρ, S, rel, er, h⟩ => h m H none Ext.refl rel rfl
theorem s_oS {e : Expr} {x : E} (h : PE X e (rE B P W x)) : PO X (some e) (rO B P W (.some x)) :=
  PO.imp (po_some h) fun σ H Q ⟨m, ρ, S, rel, er, h⟩ => step (ev P x) rel er h fun v m1 H1 S1 d e1 rel1 er1 r1 h1 => by
    split at h1
    · cases r1
      exact ⟨_, rfl, h1 m1 H1 _ Ext.refl rel1 rfl⟩
    · exact h1.elim
theorem s_cut (ok : Okb X B C P W) {a : Expr} {lo hi : Option Expr} {x : E} {l h : Op} {pos p2 : Pos} (ha : PE X a (rE B P W x)) (hl : PO X lo (rO B P W l)) (hh : PO X hi (rO B P W h)) : PE X (.Subscript a (.Slice lo hi none p2) pos) (rE B P W (.cut x l h)) :=
  PE.imp (pe_slice (sl_rB (W := W) ok.is) ha hl hh) fun σ H Q ⟨m, ρ, S, rel, er, hq⟩ => step (ev P x) rel er hq fun v m1 H1 S1 d e1 rel1 er1 r1 h1 =>
    step (evo P l) rel1 er1 h1 fun w m2 H2 S2 d2 e2 rel2 er2 r2 h2 => step (evo P h) rel2 er2 h2 fun u m3 H3 S3 d3 e3 rel3 er3 r3 h3 => by
      subst r2 r3
      exact ⟨m3, S3, d, rel3, (r1.ext rel1 e2).ext rel2 e3, h3⟩
theorem s_rev (ok : Okb X B C P W) {a : Expr} {x : E} {k : Nat} {p1 p2 p3 pos : Pos} (ha : PE X a (rE B P W x)) : PE X (.Subscript a (.Slice none none (some (.UnaryOp .USub (.Constant (.int 1) k p1) p2)) p3) pos) (rE B P W (.rev x)) :=
  PE.imp (pe_revL ha) fun σ H Q ⟨m, ρ, S, rel, er, hq⟩ => step (ev P x) rel er hq fun v m1 H1 S1 d e1 rel1 er1 r1 h1 => by
    split at h1
    · rename_i ds hd
      obtain ⟨p, vs, rfl, h5, h6⟩ := r1.lst rel1 hd
      rw [← ok.is.K] at h5
      exact ⟨p, vs, rfl, h5, fun q hn => rep_new rel1 h6.reverse hn h1⟩
    · exact h1.elim

/-! ### calls -/
theorem pe_callS0 {CX : CXT} {k : Nat} {f : Addr} {fd : FuncData} {ps : List Str} {sp : Sp} {E : L2.St → XK} {x : Str} {p pos : Pos} (F : FnOk X.prog X.w X.K X.mg X.base CX k f fd ps sp) (hr : Room k X.A) (hg : Gl X x) (hm : X.mg x = some (.ref f)) (hk : PySem.W.keepIn X.K (.ref f) = true) (hb : Binds X.K fd ps []) (hx : ∀ σ, PassesAt CX X σ (E σ))
    (hdb : (x == ("__debug__" : Str)) = false) : PE X (.Call (.Name x p) [] [] pos) (tCallS sp E tNil) := by
  refine ⟨fun pins s σ H Q I h => ?_⟩
  refine wpAny_Call_Name_kw (ld_glob I hg hm ?_ hdb)
  exact PySem.W.callWith_K0 I.kIn hk (run_fnS (us := []) F hr hb (hx σ) I .nil h)
theorem evs_len : ∀ (xs : Es) {n : Nat} {ρ : Env} {S S' : Sto} {ds : List D}, esN xs = some n → evs P xs ρ S = .ok ds S' → ds.length = n
  | .nil, n, ρ, S, S', ds, h, e => by
    cases h
    cases e
    rfl
  | .cons x xs, n, ρ, S, S', ds, h, e => by
    obtain ⟨k, h1, rfl⟩ := Option.map_eq_some_iff.mp h
    have e : (ev P x ρ S).bind (fun x S1 => (evs P xs ρ S1).bind fun xs S2 => .ok (x :: xs) S2) = .ok ds S' := e
    cases q : ev P x ρ S with
    | ok d S1 =>
      rw [q] at e
      have e : (evs P xs ρ S1).bind (fun xs S2 => .ok (d :: xs) S2) = .ok ds S' := e
      cases q2 : evs P xs ρ S1 with
      | ok ds' S2 =>
        rw [q2] at e
        cases e
        rw [List.length_cons, evs_len xs h1 q2]
      | er x S2 => rw [q2] at e; cases e
      | no => rw [q2] at e; cases e
    | er x S1 => rw [q] at e; cases e
    | no => rw [q] at e; cases e
  | .star x xs, n, _, _, _, _, h, _ => by cases h
theorem call_read {x : Str} {n : Nat} {xs : Es} (hl : esN xs = some n) {σ : L2.St} {H : Hp} {Q : VK} (h : rE B P W (.call x xs) σ H Q) : rEs B P W xs σ H fun vs H1 => spC B P x n vs H1 Q W := by
  obtain ⟨m, ρ, S, rel, er, h⟩ := h
  refine ⟨m, ρ, S, rel, er, ?_⟩
  have h3 : PostE B (Rep B) ((evs P xs ρ S).bind fun ds S1 => P.call x ds S1) m H Q W := h
  cases q : evs P xs ρ S with
  | ok ds S1 =>
    rw [q] at h3
    intro m1 H1 b e1 rel1 r1
    exact ⟨m1, S1, ds, rel1, r1, evs_len xs hl q, PostE.ext (show PostE B (Rep B) (P.call x ds S1) m H Q W from h3) e1⟩
  | er e S1 =>
    rw [q] at h3
    exact h3
  | no =>
    rw [q] at h3
    exact h3
theorem s_call (ok : Okb X B C P W) {x : Str} {n : Nat} {e : Expr} {es : List Expr} {xs : Es} {p pos : Pos} (hg : isGl C x = true) (hk : C.G.lookup x = some (.fn n)) (hc : C.calm = true) (hn : noStar (e :: es) = true) (hl : esN xs = some n)
    (hs : PA X (e :: es) (rEs B P W xs)) : PE X (.Call (.Name x p) (e :: es) [] pos) (rE B P W (.call x xs)) := by
  obtain ⟨f, fd, ps, k, F, hr, hm, hkp, hb⟩ := (ok.fn x n hc hk).ex
  obtain ⟨g1, g2⟩ := ok.gl hg
  obtain ⟨h1, h2⟩ := noStar_cons hn
  exact PE.imp (pe_callS (E := WE fun c d _ H => W c d H) F hr g1 hm hkp hb (passAt ok.tk) hs g2.d (starEach_ns h1) (star_any h2)) fun σ H Q h => call_read hl h
theorem s_call0 (ok : Okb X B C P W) {x : Str} {n : Nat} {p pos : Pos} (hg : isGl C x = true) (hk : C.G.lookup x = some (.fn n)) (hc : C.calm = true) (hl : esN .nil = some n) : PE X (.Call (.Name x p) [] [] pos) (rE B P W (.call x .nil)) := by
  obtain ⟨f, fd, ps, k, F, hr, hm, hkp, hb⟩ := (ok.fn x n hc hk).ex
  obtain ⟨g1, g2⟩ := ok.gl hg
  exact PE.imp (pe_callS0 (E := WE fun c d _ H => W c d H) F hr g1 hm hkp hb (passAt ok.tk) g2.d) fun σ H Q h => by
    obtain ⟨m, ρ, S, rel, er, h⟩ := call_read hl h
    exact h m H [] Ext.refl rel .nil
/-! ### built-ins -/
theorem callR_no {v : Value} {g : List D → Sto → Res D} (h : ∀ ds S, g ds S = .no) : CallR X v (rF B W g) := by
  intro pins s σ H xs us Q I r hq
  obtain ⟨m, S, ds, rel, rs, hp⟩ := hq
  rw [h] at hp
  exact hp.elim
theorem callR_eq {v : Value} {g g' : List D → Sto → Res D} (h : CallR X v (rF B W g)) (e : g' = g) : CallR X v (rF B W g') := by
  rw [e]
  exact h
theorem callR_calm {v : Value} {c : Bool} {g g' : List D → Sto → Res D} (h : c = true → CallR X v (rF B W g)) (e0 : c = false → ∀ ds S, g' ds S = .no) (e1 : c = true → g' = g) : CallR X v (rF B W g') := by
  cases c with
  | true => exact callR_eq (h rfl) (e1 rfl)
  | false => exact callR_no (e0 rfl)
theorem blt_fn (ok : Okb X B C P W) {x : Str} (h : x ∈ bltFns) : x ∈ allB ∧ ∃ id, bootBuiltins x = some (.builtin id) ∧ CallR X (.builtin id) (rF B W (bltn P.calm x)) := by
  have hX := ok.is
  simp only [bltFns, List.mem_cons, List.not_mem_nil, or_false] at h
  rcases h with rfl | rfl | rfl | rfl | rfl | rfl | rfl | rfl | rfl
  · exact ⟨by decide, _, boot_len, callR_eq (c_len hX) rfl⟩
  · exact ⟨by decide, _, boot_isinstance, callR_eq (c_isi hX) rfl⟩
  · exact ⟨by decide, _, boot_abs, callR_eq c_abs rfl⟩
  · exact ⟨by decide, _, boot_sorted, callR_eq (c_sorted hX) rfl⟩
  · exact ⟨by decide, _, boot_max, callR_calm (fun hc => c_max hX (ok.pc hc)) (fun hc ds S => by rw [hc]; rfl) (fun hc => by rw [hc]; rfl)⟩
  · exact ⟨by decide, _, boot_min, callR_calm (fun hc => c_min hX (ok.pc hc)) (fun hc ds S => by rw [hc]; rfl) (fun hc => by rw [hc]; rfl)⟩
  · exact ⟨by decide, _, boot_sum, callR_calm (fun hc => c_sum hX (ok.pc hc)) (fun hc ds S => by rw [hc]; rfl) (fun hc => by rw [hc]; rfl)⟩
  · exact ⟨by decide, _, boot_all, callR_calm (fun hc => c_all hX (ok.pc hc)) (fun hc ds S => by rw [hc]; rfl) (fun hc => by rw [hc]; rfl)⟩
  · exact ⟨by decide, _, boot_any, callR_calm (fun hc => c_any hX (ok.pc hc)) (fun hc ds S => by rw [hc]; rfl) (fun hc => by rw [hc]; rfl)⟩
theorem blt_ty (ok : Okb X B C P W) {x : Str} (h : x ∈ bltTys) : x ∈ allB ∧ ∃ id, bootBuiltins x = some (.type id) ∧ CallR X (.type id) (rF B W (bltn P.calm x)) := by
  have hX := ok.is
  simp only [bltTys, List.mem_cons, List.not_mem_nil, or_false] at h
  rcases h with rfl | rfl | rfl | rfl
  · exact ⟨by decide, _, boot_int, callR_eq c_int rfl⟩
  · exact ⟨by decide, _, boot_str, callR_eq c_str rfl⟩
  · exact ⟨by decide, _, boot_list, callR_eq (c_list hX) rfl⟩
  · exact ⟨by decide, _, boot_tuple, callR_eq (c_tuple hX) rfl⟩
theorem s_blt (ok : Okb X B C P W) {x : Str} {e : Expr} {es : List Expr} {xs : Es} {p pos : Pos} (hg : isGl C x = true) (hk : C.G.lookup x = none) (hx : x ∈ bltFns ∨ x ∈ bltTys) (hn : noStar (e :: es) = true) (hs : PA X (e :: es) (rEs B P W xs)) :
    PE X (.Call (.Name x p) (e :: es) [] pos) (rE B P W (.blt x xs)) := by
  obtain ⟨g1, g2⟩ := ok.gl hg
  obtain ⟨h1, h2⟩ := noStar_cons hn
  have rd : ∀ σ H Q, rE B P W (.blt x xs) σ H Q → tCB (rF B W (bltn P.calm x)) (rEs B P W xs) σ H Q := fun σ H Q ⟨m, ρ, S, rel, er, h⟩ => step (evs P xs) rel er h fun vs m1 H1 S1 ds e1 rel1 er1 r1 h1 => ⟨m1, S1, ds, rel1, r1, h1⟩
  rcases hx with hx | hx
  · obtain ⟨hb, id, hid, hr⟩ := blt_fn ok hx
    exact PE.imp (pe_callB hr g1 (ok.blt x hb hk) hid hs g2.n g2.d (starEach_ns h1) (star_any h2)) rd
  · obtain ⟨hb, id, hid, hr⟩ := blt_ty ok hx
    exact PE.imp (pe_callTy hr g1 (ok.blt x hb hk) hid hs g2.n g2.d (starEach_ns h1) (star_any h2)) rd
/-! ### methods -/
theorem few_of {es : List Expr} {env : PySem.Env} {pos : Pos} (hn : noStar es = true) (hl : es.length < 30) : ((backTo pos (starEach es env)).all (fun x => !x.1) && (backToKw pos (keywordEach [] env)).all (fun x => x.1.isSome)
      && decide (es.length + ([] : List Keyword).length + (if ([] : List Keyword).isEmpty then 0 else 1) < 30)) = true := by
  rw [star_all hn]
  show (true && true && decide (es.length + 0 + 0 < 30)) = true
  simpa using hl
theorem s_mth (ok : Okb X B C P W) {o : Expr} {es : List Expr} {x : E} {xs : Es} {name : Str} {apos cpos : Pos} (hb : noCall0 o = true) (hn : noStar es = true) (hlen : es.length < 30) (hline : (apos.endLine == cpos.line) = true)
    (ho : PE X o (rE B P W x)) (hs : PA X es (rEs B P W xs)) (h0 : es = [] → xs = .nil) : PE X (.Call (.Attribute o name apos) es [] cpos) (rE B P W (.mth name x xs)) := by
  cases es with
  | nil =>
    have e0 := h0 rfl
    subst e0
    exact PE.imp (pe_bmG0 ho (base_of hb) hline) fun σ H Q ⟨m, ρ, S, rel, er, h⟩ => step (ev P x) rel er h fun v m1 H1 S1 d e1 rel1 er1 r1 h1 => by
      split at h1
      · rename_i id hid
        obtain ⟨T, hT, hid⟩ := Option.bind_eq_some_iff.mp hid
        have M := mt_ok (W := W) ok.is hid
        exact ⟨T, id, _, M.pa, M.slot, M.ty, M.mt, recv_ty ok.is rel1 r1 hT, m1, S1, d, [], rel1, r1, .nil, h1⟩
      · exact h1.elim
  | cons e es =>
    obtain ⟨n1, n2⟩ := noStar_cons hn
    exact PE.imp (pe_bmG ho hs (base_of hb) (few_of hn hlen) hline (starEach_ns n1) (star_any n2)) fun σ H Q ⟨m, ρ, S, rel, er, h⟩ => step (ev P x) rel er h fun v m1 H1 S1 d e1 rel1 er1 r1 h1 => by
      split at h1
      · rename_i id hid
        obtain ⟨T, hT, hid⟩ := Option.bind_eq_some_iff.mp hid
        have M := mt_ok (W := W) ok.is hid
        refine ⟨T, id, _, M.pa, M.slot, M.ty, M.mt, recv_ty ok.is rel1 r1 hT, ?_⟩
        exact step (evs P xs) rel1 er1 h1 fun vs m2 H2 S2 ds e2 rel2 er2 r2 h2 => ⟨m2, S2, d, ds, rel2, r1.ext rel1 e2, r2, h2⟩
      · exact h1.elim
end
end Pi

set_option Elab.async false
set_option linter.all false
set_option maxHeartbeats 2000000
namespace Pi
open PySem L2 PyProof.Rows
section
variable {X : Cx} {B : Bd} {C : Cs} {P : Par} {W : WXH}
/-! ### range(..) -/
theorem rgOf_ok {ds : List D} {a : Int} {n : Nat} (h : rgOf ds = some (a, n)) : (∃ j, ds = [.int j] ∧ a = 0 ∧ n = (j - 0).toNat ∧ RgOk 0 j ∧ -(2 ^ 62) ≤ j ∧ j < 2 ^ 62) ∨ (∃ i j, ds = [.int i, .int j] ∧ a = i ∧ n = (j - i).toNat ∧ RgOk i j ∧ (-(2 ^ 62) ≤ i ∧ i < 2 ^ 62 ∧ -(2 ^ 62) ≤ j ∧ j < 2 ^ 62)) := by
  unfold rgOf at h
  split at h
  · rename_i j
    split at h
    · rename_i hb
      simp only [Bool.and_eq_true, decide_eq_true_eq] at hb
      cases h
      refine .inl ⟨j, rfl, rfl, by simp, ⟨by omega, by omega, by omega, by omega, by omega⟩, by omega, by omega⟩
    · cases h
  · rename_i i j
    split at h
    · rename_i hb
      simp only [Bool.and_eq_true, decide_eq_true_eq] at hb
      cases h
      refine .inr ⟨_, j, rfl, rfl, rfl, ⟨by omega, by omega, by omega, by omega, by omega⟩, by omega, by omega, by omega, by omega⟩
    · cases h
  · cases h
theorem Reps.rg {m : List Addr} {H : Hp} (a b : Int) : Reps B m H (rgV a b) ((List.range (b - a).toNat).map fun (i : Nat) => D.int (a + i)) := by
  have := Reps.ints (B := B) (m := m) (H := H) ((List.range (b - a).toNat).map fun (i : Nat) => a + (i : Int))
  rw [List.map_map, List.map_map] at this
  exact this
theorem prg_A1 {a : Expr} {ta : TA} {p pos : Pos} (hg : Gl X "range") (hm : X.mg "range" = none) (ha : PA X [a] ta) (hs : starEach [a] X.env = [(false, eval a X.env)]) :
    PRg X (.Call (.Name "range" p) [a] [] pos) (fun σ H Q => ta σ H fun vs H1 => ∃ j : Int, vs = [.int j] ∧ Q 0 j H1) := by
  intro pins s σ H Q I h
  refine Call_ (ld_blt I hg hm boot_range (PyProof.Rows.callWith_type1 (thn (ha.run pos pins s σ H _ I h) fun us s1 ⟨vs, H1, I1, r1, q1⟩ => ?_) hs rfl))
  obtain ⟨j, e, q⟩ := q1
  subst e
  obtain ⟨u, rfl, ru⟩ := r1.one
  obtain ⟨t, rfl⟩ := ru
  exact call_range_1 ⟨_, 0, j, _, _, _, H1, rfl, IsRange.new _ _ _ _ _ _ _, I1.kept fun b u e => Heap.get?_push_of_some _ e, q⟩
theorem prg_A2 {a b : Expr} {ta : TA} {p pos : Pos} (hg : Gl X "range") (hm : X.mg "range" = none) (ha : PA X [a, b] ta) (hs : starEach [a, b] X.env = (false, eval a X.env) :: starEach [b] X.env) (hp : (backTo pos (starEach [b] X.env)).any (·.1) = false) :
    PRg X (.Call (.Name "range" p) [a, b] [] pos) (fun σ H Q => ta σ H fun vs H1 => ∃ i j : Int, vs = [.int i, .int j] ∧ Q i j H1) := by
  intro pins s σ H Q I h
  refine Call_ (ld_blt I hg hm boot_range (PyProof.Rows.callWith_type1 (thn (ha.run pos pins s σ H _ I h) fun us s1 ⟨vs, H1, I1, r1, q1⟩ => ?_) hs hp))
  obtain ⟨i, j, e, q⟩ := q1
  subst e
  obtain ⟨u, u2, rfl, ru, ru2⟩ := r1.two
  obtain ⟨t, rfl⟩ := ru
  obtain ⟨t', rfl⟩ := ru2
  exact call_range_2 ⟨_, i, j, _, _, _, H1, rfl, IsRange.new _ _ _ _ _ _ _, I1.kept fun b u e => Heap.get?_push_of_some _ e, q⟩
theorem ns1 {a : Expr} {env : PySem.Env} (h : noStar [a] = true) : starEach [a] env = [(false, eval a env)] := starEach_ns (noStar_cons h).1
theorem nsC (e : Expr) (h : ∀ e' p, e = .Starred e' p → False) {env : PySem.Env} : starEach [e] env = (false, eval e env) :: starEach [] env := starEach_ns h
theorem rEs_len {xs : Es} {n : Nat} (hl : esN xs = some n) {σ : L2.St} {H : Hp} {R : List V → Hp → Prop} (h : rEs B P W xs σ H R) : rEs B P W xs σ H fun vs H1 => vs.length = n ∧ R vs H1 := by
  obtain ⟨m, ρ, S, rel, er, h⟩ := h
  refine ⟨m, ρ, S, rel, er, ?_⟩
  cases q : evs P xs ρ S with
  | ok ds S1 =>
    rw [q] at h
    intro m1 H1 b e1 rel1 r1
    exact ⟨r1.length.trans (evs_len xs hl q), h m1 H1 b e1 rel1 r1⟩
  | er e S1 =>
    rw [q] at h
    exact h
  | no =>
    rw [q] at h
    exact h
theorem rEs_mono {xs : Es} {σ : L2.St} {H : Hp} {R R' : List V → Hp → Prop} (h : rEs B P W xs σ H R) (hi : ∀ vs H1, R vs H1 → R' vs H1) : rEs B P W xs σ H R' := by
  obtain ⟨m, ρ, S, rel, er, h⟩ := h
  exact ⟨m, ρ, S, rel, er, h.mono hi fun _ _ _ h => h⟩
theorem pe_rgl (ok : Okb X B C P W) {x : Str} {t : Bool} {e : Expr} {xs : Es} {te : L2.St → Hp → (Int → Int → Hp → Prop) → Prop} {p pos : Pos} (hc : X.calm = true) (hx : x = (if t = true then "tuple" else "list")) (hg : Gl X x) (hm : X.mg x = none) (hns : ∀ e' p, e = .Starred e' p → False) (he : PRg X e te)
    (hr : ∀ σ H (Q : Int → Int → Hp → Prop), rEs B P W xs σ H (fun vs H1 => (∃ j, vs = [.int j] ∧ Q 0 j H1) ∨ ∃ i j, vs = [.int i, .int j] ∧ Q i j H1) → te σ H Q) :
    PE X (.Call (.Name x p) [e] [] pos) (rE B P W (.rgl t xs)) := by
  have rd : ∀ {σ H Q} (G : Int → Int → Hp → Prop), rE B P W (.rgl t xs) σ H Q → (∀ m1 H1 S1 a b, Rel B m1 H1 S1 → RgOk a b → PostE B (Rep B) (if t = true then .ok (.tup ((List.range (b - a).toNat).map fun (i : Nat) => D.int (a + i))) S1 else new (.lst ((List.range (b - a).toNat).map fun (i : Nat) => D.int (a + i))) S1) m1 H1 Q W → G a b H1) → te σ H G := fun {σ H Q} G ⟨m, ρ, S, rel, er, h⟩ hG => by
    refine hr σ H G (step (evs P xs) rel er h fun vs m1 H1 S1 ds e1 rel1 er1 r1 h1 => ?_)
    split at h1
    · rename_i a n hab
      rcases rgOf_ok hab with ⟨j, rfl, rfl, rfl, ok1, _⟩ | ⟨i, j, rfl, rfl, rfl, ok1, _⟩
      · obtain ⟨v, rfl, rv⟩ := r1.one
        cases rv
        exact .inl ⟨_, rfl, hG m1 H1 S1 0 _ rel1 ok1 h1⟩
      · obtain ⟨v, w, rfl, rv, rw'⟩ := r1.two
        cases rv
        cases rw'
        exact .inr ⟨_, _, rfl, hG m1 H1 S1 _ _ rel1 ok1 h1⟩
    · exact h1.elim
  cases t with
  | true =>
    rw [if_pos rfl] at hx
    subst hx
    exact PE.imp (pe_tupRg hc hg hm he (nsC e hns)) fun σ H Q h => rd _ h fun m1 H1 S1 a b rel1 ok1 hp => ⟨ok1, fun q hq => rep_tup rel1 (Reps.rg a b) hq hp⟩
  | false =>
    rw [if_neg Bool.false_ne_true] at hx
    subst hx
    exact PE.imp (pe_listRg hc hg hm he (nsC e hns)) fun σ H Q h => rd _ h fun m1 H1 S1 a b rel1 ok1 hp => ⟨ok1, fun q hq => rep_new rel1 (Reps.rg a b) hq hp⟩
theorem s_rgl1 (ok : Okb X B C P W) {x : Str} {t : Bool} {a : Expr} {xs : Es} {p q r pos : Pos} (hc : X.calm = true) (hx : x = (if t = true then "tuple" else "list")) (hg : Gl X x) (hm : X.mg x = none) (hg2 : Gl X "range") (hm2 : X.mg "range" = none) (hn : noStar [a] = true) (hl : esN xs = some 1) (hs : PA X [a] (rEs B P W xs)) :
    PE X (.Call (.Name x p) [.Call (.Name "range" q) [a] [] r] [] pos) (rE B P W (.rgl t xs)) :=
  pe_rgl ok hc hx hg hm (fun _ _ q => by cases q) (prg_A1 hg2 hm2 hs (ns1 hn)) fun σ H Q h => rEs_mono (rEs_len hl h) fun vs H1 ⟨h1, h2⟩ => by
    rcases h2 with h2 | ⟨i, j, rfl, _⟩
    · exact h2
    · cases h1
theorem s_rgl2 (ok : Okb X B C P W) {x : Str} {t : Bool} {a b : Expr} {xs : Es} {p q r pos : Pos} (hc : X.calm = true) (hx : x = (if t = true then "tuple" else "list")) (hg : Gl X x) (hm : X.mg x = none) (hg2 : Gl X "range") (hm2 : X.mg "range" = none) (hn : noStar [a, b] = true) (hl : esN xs = some 2) (hs : PA X [a, b] (rEs B P W xs)) :
    PE X (.Call (.Name x p) [.Call (.Name "range" q) [a, b] [] r] [] pos) (rE B P W (.rgl t xs)) :=
  pe_rgl ok hc hx hg hm (fun _ _ q => by cases q) (prg_A2 hg2 hm2 hs (starEach_ns (noStar_cons hn).1) (star_any (noStar_cons hn).2)) fun σ H Q h => rEs_mono (rEs_len hl h) fun vs H1 ⟨h1, h2⟩ => by
    rcases h2 with ⟨j, rfl, _⟩ | h2
    · cases h1
    · exact h2

/-! ### what is walked -/
theorem srcOf_rep {m : List Addr} {H : Hp} {S : Sto} {v : V} {d : D} {src : Src} (rel : Rel B m H S) (r : Rep B m H v d) (h : srcOf S d = some src) :
    ∃ a, v = .ref a ∧ ((∃ xs, SqL B.K H a xs ∧ SrcRep B m H (Itl B.K a) src ∧ (∀ m' H' S', Ext m H m' H' → Rel B m' H' S' → ∃ xs, SqL B.K H' a xs) ∧ isTupD d = false) ∨ (∃ xs ds, SqT B.K H a xs ∧ Reps B m H xs ds ∧ src = .tup ds ∧ isTupD d = true)) := by
  cases r with
  | tup hs hr =>
    cases h
    exact ⟨_, rfl, .inr ⟨_, _, hs, hr, rfl, rfl⟩⟩
  | rol hs hr =>
    cases h
    exact ⟨_, rfl, .inl ⟨_, hs.sq, src_rol rel hs hr, fun m' H' S' e _ => ⟨_, (rel.rol e hs).sq⟩, rfl⟩⟩
  | @obj n a ha =>
    dsimp only [srcOf] at h
    split at h
    · rename_i he
      cases h
      obtain ⟨vs, q1, r1⟩ := rel.ob _ _ _ ha he
      refine ⟨a, rfl, .inl ⟨vs, .of q1, src_at ha, fun m' H' S' e rel' => ?_, rfl⟩⟩
      obtain ⟨ws, hw⟩ := e.lst a (List.mem_of_getElem? ha) ⟨vs, q1⟩
      exact ⟨ws, .of hw⟩
    · cases h
  | _ => cases h
/-- walked as it stands -/
theorem pi_seqA {tg l : Expr} {tl : TE} (hl : PE X l tl) : PI X tg l (fun σ H R => tl σ H fun x H1 => ∃ a, x = .ref a ∧ ((∃ xs, SqL X.K H1 a xs ∧ R (Itl X.K a) H1) ∨ (∃ xs, SqT X.K H1 a xs ∧ R (Itt X.K a) H1))) := by
  refine ⟨fun pins s σ H R I h => ?_⟩
  refine thn (hl.run pins s σ H _ I h) fun v s1 ⟨x, H1, I1, r1, q1⟩ => ?_
  obtain ⟨a, e, q⟩ := q1
  subst e
  cases r1
  have fr : ∀ {b : Addr} {o : Obj}, b ∈ [s1.heap.objs.size] → FpOk X pins H1 b := fun {b o} hb => by
    have e : b = s1.heap.objs.size := by simpa using hb
    subst e
    exact I1.fpOk (Nat.le_refl _) (I1.hok.fresh (Nat.le_refl _))
  rcases q with ⟨xs, hq, q⟩ | ⟨xs, hq, q⟩
  · obtain ⟨its, rv, p, hz⟩ := I1.list hq
    refine wpAny_pyIter_list p.isList ?_
    exact ⟨s1.heap.objs.size, [s1.heap.objs.size], _, _, H1, rfl, I1.kept (t' := s1.toks) fun b o e => Heap.get?_push_of_some _ e, turn_list a _, ⟨_, Heap.get?_push_size _ rfl, rfl, rfl⟩, fun b hb => fr (o := default) hb, q⟩
  · obtain ⟨its, rv, p, hz⟩ := I1.tuple hq
    refine wpAny_pyIter_tuple (show s1.heap.IsTuple a its.toArray from p) ?_
    exact ⟨s1.heap.objs.size, [s1.heap.objs.size], _, _, H1, rfl, I1.kept (t' := s1.toks) fun b o e => Heap.get?_push_of_some _ e, turn_tuple a _, ⟨_, Heap.get?_push_size _ rfl, rfl, rfl⟩, fun b hb => fr (o := default) hb, q⟩
theorem pi_enumA {e : Expr} {ta : TA} {p pos tpos : Pos} {elts : List Expr} {kk : Nat} (hg : Gl X "enumerate") (hm : X.mg "enumerate" = none) (ha : PA X [e] ta) (hs : starEach [e] X.env = [(false, eval e X.env)]) :
    PI X (.Tuple elts kk tpos) (.Call (.Name "enumerate" p) [e] [] pos) (fun σ H R => ta σ H fun vs H1 => ∃ a, vs = [.ref a] ∧ ((∃ xs, SqL X.K H1 a xs ∧ R (Ite X.K a) H1) ∨ (∃ xs, SqT X.K H1 a xs ∧ R (IteT X.K a xs.length) H1))) := by
  refine ⟨fun pins s σ H R I h => ?_⟩
  refine Call_ (ld_blt I hg hm boot_enumerate (PyProof.Rows.callWith_type1 (thn (ha.run pos pins s σ H _ I h) fun us s1 ⟨vs, H1, I1, r1, q1⟩ => ?_) hs rfl))
  obtain ⟨a, ex, q⟩ := q1
  subst ex
  obtain ⟨u, rfl, ru⟩ := r1.one
  cases ru
  have fr : ∀ b, b ∈ [s1.heap.objs.size + 1, s1.heap.objs.size] → FpOk X pins H1 b := fun b hb => by
    have e' : b = s1.heap.objs.size + 1 ∨ b = s1.heap.objs.size := by simpa using hb
    have hle : s1.heap.objs.size ≤ b := by
      rcases e' with z | z
      · rw [z]; exact Nat.le_add_right _ _
      · rw [z]; exact Nat.le_refl _
    exact I1.fpOk hle (I1.hok.fresh hle)
  rcases q with ⟨xs, hq, q⟩ | ⟨xs, hq, q⟩
  · obtain ⟨its, rv, p', hz⟩ := I1.list hq
    refine call_enumerate_list p'.isList fun h' he hit hsz hk => wpAny_pyIter_enum he ?_
    have I2 : Inv X pins σ H1 { s1 with heap := h' } := I1.kept (t' := s1.toks) hk
    exact ⟨s1.heap.objs.size + 1, [s1.heap.objs.size + 1, s1.heap.objs.size], _, _, H1, rfl, I2, turn_enum a (s1.heap.objs.size + 1) s1.heap.objs.size, ⟨⟨.none, he⟩, hit, Nat.succ_ne_self _⟩, fr, q⟩
  · obtain ⟨its, rv, p', hz⟩ := I1.tuple hq
    have hlt : a < s1.heap.objs.size := by obtain ⟨o, ho, _⟩ := id p'; exact Heap.lt_size ho
    refine enum_begins1 (begins_tuple a its.toArray) (show s1.heap.IsTuple a its.toArray from p') fun h' he hit hsz hk => wpAny_pyIter_enum he ?_
    have I2 : Inv X pins σ H1 { s1 with heap := h' } := I1.kept (t' := s1.toks) hk
    exact ⟨s1.heap.objs.size + 1, [s1.heap.objs.size + 1, s1.heap.objs.size], _, _, H1, rfl, I2, turn_enumT a (s1.heap.objs.size + 1) s1.heap.objs.size xs.length, ⟨Nat.zero_le _, ⟨.none, he⟩, ⟨_, hit, rfl, rfl⟩, Nat.succ_ne_self _, Nat.ne_of_gt (Nat.lt_succ_of_lt hlt), Nat.ne_of_gt hlt⟩, fr, q⟩
theorem src_str {m0 : List Addr} {H0 : Hp} {z : Str} : SrcRep B m0 H0 (Its z) (.tup (z.cps.toList.map fun c => D.str ⟨#[c]⟩)) := fun i m H S e rel' => by
  show match some (z.cps.toList.map fun c => D.str ⟨#[c]⟩)[i]? with | none => True | some none => _ | some (some d) => _
  cases hi : (z.cps.toList.map fun c => D.str ⟨#[c]⟩)[i]? with
  | none =>
    rw [List.getElem?_eq_none_iff, List.length_map] at hi
    show z.cps.size ≤ i
    simpa using hi
  | some d =>
    rw [List.getElem?_map] at hi
    obtain ⟨c, hc, rfl⟩ := Option.map_eq_some_iff.mp hi
    have hc' : z.cps[i]? = some c := by rw [← Array.getElem?_toList]; exact hc
    refine ⟨?_, fun x H' hy => ?_⟩
    · show i < z.cps.size
      exact (Array.getElem?_eq_some_iff.mp hc').1
    · obtain ⟨rfl, c2, h2, rfl⟩ := hy
      rw [hc'] at h2
      cases h2
      exact ⟨Ext.refl, rel', .str _⟩
theorem pi_seqS {tg l : Expr} {tl : TE} (hl : PE X l tl) : PI X tg l (fun σ H R => tl σ H fun x H1 => (∃ z, x = .str z ∧ R (Its z) H1) ∨ ∃ a, x = .ref a ∧ ((∃ xs, SqL X.K H1 a xs ∧ R (Itl X.K a) H1) ∨ (∃ xs, SqT X.K H1 a xs ∧ R (Itt X.K a) H1))) := by
  refine ⟨fun pins s σ H R I h => ?_⟩
  refine thn (hl.run pins s σ H _ I h) fun v s1 ⟨x, H1, I1, r1, q1⟩ => ?_
  rcases q1 with ⟨z, ex, q⟩ | ⟨a, e, q⟩
  · subst ex
    obtain ⟨t, rfl⟩ := r1
    cases ha : z.cps.all (· < 128)
    · exact wpAny_pyIter_wide ha (pi_one (tk := s1.toks) I1 _ (turn_str _ z t "str_iterator" (.inr rfl)) ⟨_, Heap.get?_push_size _ rfl, rfl, rfl⟩ q)
    · exact wpAny_pyIter_ascii ha (pi_one (tk := s1.toks) I1 _ (turn_str _ z t "str_ascii_iterator" (.inl rfl)) ⟨_, Heap.get?_push_size _ rfl, rfl, rfl⟩ q)
  · subst e
    cases r1
    have fr : ∀ {b : Addr} {o : Obj}, b ∈ [s1.heap.objs.size] → FpOk X pins H1 b := fun {b o} hb => by
      have e : b = s1.heap.objs.size := by simpa using hb
      subst e
      exact I1.fpOk (Nat.le_refl _) (I1.hok.fresh (Nat.le_refl _))
    rcases q with ⟨xs, hq, q⟩ | ⟨xs, hq, q⟩
    · obtain ⟨its, rv, p, hz⟩ := I1.list hq
      refine wpAny_pyIter_list p.isList ?_
      exact ⟨s1.heap.objs.size, [s1.heap.objs.size], _, _, H1, rfl, I1.kept (t' := s1.toks) fun b o e => Heap.get?_push_of_some _ e, turn_list a _, ⟨_, Heap.get?_push_size _ rfl, rfl, rfl⟩, fun b hb => fr (o := default) hb, q⟩
    · obtain ⟨its, rv, p, hz⟩ := I1.tuple hq
      refine wpAny_pyIter_tuple (show s1.heap.IsTuple a its.toArray from p) ?_
      exact ⟨s1.heap.objs.size, [s1.heap.objs.size], _, _, H1, rfl, I1.kept (t' := s1.toks) fun b o e => Heap.get?_push_of_some _ e, turn_tuple a _, ⟨_, Heap.get?_push_size _ rfl, rfl, rfl⟩, fun b hb => fr (o := default) hb, q⟩
theorem sI_seq (ok : Okb X B C P W) {tg e : Expr} {x : E} (h : PE X e (rE B P W x)) : PI X tg e (rI B P W (.seq x)) :=
  PI.imp (pi_seqS h) fun σ H Q ⟨m, ρ, S, rel, er, h⟩ => step (ev P x) rel er h fun v m1 H1 S1 d e1 rel1 er1 r1 h1 => by
    split at h1
    · rename_i s hs
      unfold srcS at hs
      split at hs
      · cases hs
        cases r1
        exact .inl ⟨_, rfl, h1 m1 H1 _ Ext.refl rel1 src_str⟩
      · obtain ⟨a, rfl, q⟩ := srcOf_rep rel1 r1 hs
        refine .inr ⟨a, rfl, ?_⟩
        rw [ok.is.K]
        rcases q with ⟨xs, h2, h3, _, _⟩ | ⟨xs, ds, h2, h3, rfl, _⟩
        · exact .inl ⟨xs, h2, h1 m1 H1 _ Ext.refl rel1 h3⟩
        · exact .inr ⟨xs, h2, h1 m1 H1 _ Ext.refl rel1 (src_tup rel1 h2 h3)⟩
    · exact h1.elim
theorem sI_rng1 (ok : Okb X B C P W) {tg a : Expr} {xs : Es} {p pos : Pos} (hg : Gl X "range") (hm : X.mg "range" = none) (hn : noStar [a] = true) (hl : esN xs = some 1) (hs : PA X [a] (rEs B P W xs)) : PI X tg (.Call (.Name "range" p) [a] [] pos) (rI B P W (.rng xs)) :=
  PI.imp (pi_range1 hg hm hs (ns1 hn)) fun σ H Q ⟨m, ρ, S, rel, er, h⟩ => by
    have h2 : rEs B P W xs σ H fun vs H1 => (∃ j : Int, vs = [.int j] ∧ -(2 ^ 62) ≤ j ∧ j < 2 ^ 62 ∧ Q (Itr 0 j.toNat) H1) ∨ ∃ i j : Int, vs = [.int i, .int j] := step (evs P xs) rel er h fun vs m1 H1 S1 ds e1 rel1 er1 r1 h1 => by
      split at h1
      · rename_i a n hab
        rcases rgOf_ok hab with ⟨j, rfl, rfl, rfl, ok1, b1, b2⟩ | ⟨i, j, rfl, rfl, rfl, ok1, _⟩
        · obtain ⟨v, rfl, rv⟩ := r1.one
          cases rv
          refine .inl ⟨_, rfl, b1, b2, h1 m1 H1 _ Ext.refl rel1 ?_⟩
          rw [Int.sub_zero]
          exact src_rng
        · obtain ⟨v, w, rfl, rv, rw'⟩ := r1.two
          cases rv
          cases rw'
          exact .inr ⟨_, _, rfl⟩
      · exact h1.elim
    refine rEs_mono (rEs_len hl h2) fun vs H1 ⟨q1, q2⟩ => ?_
    rcases q2 with q2 | ⟨i, j, rfl⟩
    · exact q2
    · cases q1
theorem sI_rng2 (ok : Okb X B C P W) {tg a b : Expr} {xs : Es} {p pos : Pos} (hg : Gl X "range") (hm : X.mg "range" = none) (hn : noStar [a, b] = true) (hl : esN xs = some 2) (hs : PA X [a, b] (rEs B P W xs)) : PI X tg (.Call (.Name "range" p) [a, b] [] pos) (rI B P W (.rng xs)) :=
  PI.imp (pi_range2 hg hm hs (by rw [starEach_ns (noStar_cons hn).1, ns1 (noStar_cons hn).2]) (ns1 (noStar_cons hn).2)) fun σ H Q ⟨m, ρ, S, rel, er, h⟩ => by
    have h2 : rEs B P W xs σ H fun vs H1 => (∃ j : Int, vs = [.int j]) ∨ ∃ i j : Int, vs = [.int i, .int j] ∧ (-(2 ^ 62) ≤ i ∧ i < 2 ^ 62 ∧ -(2 ^ 62) ≤ j ∧ j < 2 ^ 62) ∧ Q (Itr i (j - i).toNat) H1 := step (evs P xs) rel er h fun vs m1 H1 S1 ds e1 rel1 er1 r1 h1 => by
      split at h1
      · rename_i a n hab
        rcases rgOf_ok hab with ⟨j, rfl, rfl, rfl, ok1, b1, b2⟩ | ⟨i, j, rfl, rfl, rfl, ok1, bb⟩
        · obtain ⟨v, rfl, rv⟩ := r1.one
          cases rv
          exact .inl ⟨_, rfl⟩
        · obtain ⟨v, w, rfl, rv, rw'⟩ := r1.two
          cases rv
          cases rw'
          exact .inr ⟨_, _, rfl, bb, h1 m1 H1 _ Ext.refl rel1 src_rng⟩
      · exact h1.elim
    refine rEs_mono (rEs_len hl h2) fun vs H1 ⟨q1, q2⟩ => ?_
    rcases q2 with ⟨j, rfl⟩ | q2
    · cases q1
    · exact q2
theorem pa1 {a : Expr} {x : E} (hn : noStar [a] = true) (h : PE X a (rE B P W x)) : PA X [a] (rEs B P W (.cons x .nil)) := s_cons (noStar_cons hn).1 h s_nil
theorem sI_enum (ok : Okb X B C P W) {a : Expr} {x : E} {p pos tpos : Pos} {elts : List Expr} {kk : Nat} (hg : Gl X "enumerate") (hm : X.mg "enumerate" = none) (hn : noStar [a] = true) (h : PE X a (rE B P W x)) : PI X (.Tuple elts kk tpos) (.Call (.Name "enumerate" p) [a] [] pos) (rI B P W (.enum x)) :=
  PI.imp (pi_enumA hg hm (pa_cons h pa_nil (starEach_ns (noStar_cons hn).1)) (ns1 hn)) fun σ H Q ⟨m, ρ, S, rel, er, h⟩ => step (ev P x) rel er h fun v m1 H1 S1 d e1 rel1 er1 r1 h1 => by
    split at h1
    · rename_i s hs
      obtain ⟨a, rfl, q⟩ := srcOf_rep rel1 r1 hs
      refine ⟨a, rfl, ?_⟩
      rw [ok.is.K]
      rcases q with ⟨xs, h2, h3, _, _⟩ | ⟨xs, ds, h2, h3, rfl, _⟩
      · exact .inl ⟨xs, h2, h1 m1 H1 _ Ext.refl rel1 (src_enuL h3)⟩
      · exact .inr ⟨xs, h2, h1 m1 H1 _ Ext.refl rel1 (src_enuT rel1 h2 h3)⟩
    · exact h1.elim
end
end Pi

set_option Elab.async false
set_option linter.all false
set_option maxHeartbeats 2000000
namespace Pi
open PySem L2 PyProof.Rows
section
variable {B : Bd} {m m' m0 m1 : List Addr} {H H' H0 H1 : Hp} {S S' : Sto}
/-! ### what a value's form leans on -/
def isTF : HO → Bool
  | .tup _ => true
  | .frz _ _ => true
  | _ => false
structure Low (m : List Addr) (H : Hp) (m' : List Addr) (H' : Hp) : Prop where
  pre : m <+: m'
  keep : ∀ a o, H a = some o → isTF o = true → H' a = some o
theorem Low.get (e : Low m H m' H') {n : Nat} {a : Addr} (h : m[n]? = some a) : m'[n]? = some a := by
  obtain ⟨t, rfl⟩ := e.pre
  obtain ⟨hn, _⟩ := List.getElem?_eq_some_iff.mp h
  rw [List.getElem?_append_left hn]
  exact h
theorem Low.sqt (e : Low m H m' H') {a : Addr} {xs : List V} (h : SqT B.K H a xs) : SqT B.K H' a xs := by
  rcases h with (h | ⟨o, h⟩) | h
  · exact .inl (.inl (e.keep _ _ h rfl))
  · exact .inl (.inr ⟨o, e.keep _ _ h rfl⟩)
  · exact .inr h
theorem Low.rol (e : Low m H m' H') {a : Addr} {xs : List V} (h : RoL B.K H a xs) : RoL B.K H' a xs := by
  rcases h with ⟨o, h⟩ | h
  · exact .inl ⟨o, e.keep _ _ h rfl⟩
  · exact .inr h
mutual
theorem Rep.low (e : Low m H m' H') : ∀ {d : D} {v : V}, Rep B m H v d → Rep B m' H' v d
  | .non, _, .non => .non
  | .bl b, _, .bl _ => .bl b
  | .int i, _, .int _ => .int i
  | .str x, _, .str _ => .str x
  | .tup ds, _, .tup h hs => .tup (e.sqt h) (Reps.low e hs)
  | .rol ds, _, .rol h hs => .rol (e.rol h) (Reps.low e hs)
  | .obj n, _, .obj h => .obj (e.get h)
  | .fn x, _, .fn h => .fn h
  | .cls x, _, .cls h => .cls h
  | .ty n, _, .ty _ => .ty n
  | .exn, _, .exn h => .exn h
theorem Reps.low (e : Low m H m' H') : ∀ {ds : List D} {vs : List V}, Reps B m H vs ds → Reps B m' H' vs ds
  | [], _, .nil => .nil
  | _ :: _, _, .cons h hs => .cons (Rep.low e h) (Reps.low e hs)
end
theorem ORep.low (e : Low m H m' H') {a : Addr} {o : Ob} (h : ORep B m H a o) (ha : H' a = H a) : ORep B m' H' a o := by
  cases o with
  | lst ds =>
    obtain ⟨vs, h1, h2⟩ := h
    exact ⟨vs, by rw [ha]; exact h1, h2.low e⟩
  | rng lo n => exact ⟨by rw [ha]; exact h.1, h.2⟩
theorem EnvR.low {σ : L2.St} {ρ : Env} (r : EnvR B m H σ ρ) (e : Low m H m' H') : EnvR B m' H' σ ρ := ⟨r.1, fun i d h => by
  obtain ⟨v, h1, h2⟩ := r.2 i d h
  exact ⟨v, h1, h2.low e⟩⟩
/-- a list that is not tracked by the store is rewritten -/
theorem low_upd {D : Addr} {xs ys : List V} (hD : H D = some (.lst xs)) : Low m H m (upd H D (.lst ys)) := ⟨List.prefix_rfl, fun a o h t => by
  rw [upd_ne]
  · exact h
  · rintro rfl
    rw [hD] at h
    cases h
    cases t⟩
theorem tabs_upd {T : List (Addr × Str)} {D : Addr} {xs ys : List V} (hD : H D = some (.lst xs)) (t : LamX.Tabs T H) : LamX.Tabs T (upd H D (.lst ys)) := by
  intro q hq
  obtain ⟨ps, h1, h2, h3⟩ := t q hq
  have nt : ∀ {b : Addr} {u : HO}, H b = some u → (∀ vs, u ≠ .lst vs) → upd H D (.lst ys) b = some u := fun {b u} e n1 => by
    rw [upd_ne]
    · exact e
    · rintro rfl
      rw [hD] at e
      exact n1 xs (Option.some.inj e).symm
  refine ⟨ps, nt h1 (fun _ z => by cases z), h2, fun pos cv hc => ?_⟩
  obtain ⟨c, e1, e2⟩ := h3 pos cv hc
  exact ⟨c, e1, nt e2 (fun _ z => by unfold LamX.CodeO at z; cases z)⟩
theorem Rel.updOut (r : Rel B m H S) {D : Addr} {xs ys : List V} (hD : H D = some (.lst xs)) (hm : D ∉ m) : Rel B m (upd H D (.lst ys)) S :=
  ⟨r.len, r.nd, fun n a o h1 h2 => (r.ob n a o h1 h2).low (low_upd hD) (upd_ne fun z => hm (by rw [← z]; exact List.mem_of_getElem? h1)), tabs_upd hD r.tb, fun q hq => by
    have e := r.xd q hq
    rw [upd_ne]
    · exact e
    · intro z
      rw [z, hD] at e
      cases e⟩
/-- a list made ahead is taken in -/
theorem Rel.take (r : Rel B m H S) {D : Addr} {vs : List V} {ds : List D'} {es : List Pi.D} (hD : H D = some (.lst vs)) (hm : D ∉ m) (hr : Reps B m H vs es) : Rel B (m ++ [D]) H (S ++ [.lst es]) := by
  have e : Low m H (m ++ [D]) H := ⟨List.prefix_append _ _, fun _ _ h _ => h⟩
  refine ⟨by simp [r.len], ?_, fun n a u h1 h2 => ?_, r.tb, r.xd⟩
  · rw [List.nodup_append]
    exact ⟨r.nd, by simp, fun a ha b hb z => hm (by rw [← List.mem_singleton.mp hb, ← z]; exact ha)⟩
  · by_cases hn : n < m.length
    · rw [List.getElem?_append_left hn] at h1
      rw [List.getElem?_append_left (by rw [← r.len]; exact hn)] at h2
      exact (r.ob n a u h1 h2).low e rfl
    · rw [List.getElem?_append_right (by omega)] at h1
      rw [List.getElem?_append_right (by rw [← r.len]; omega), ← r.len] at h2
      cases k : n - m.length with
      | zero =>
        rw [k] at h1 h2
        cases h1
        cases h2
        exact ⟨vs, hD, hr.low e⟩
      | succ j =>
        rw [k] at h1
        simp at h1
theorem Ext.take (e : Ext m0 H0 m H) {D : Addr} (hD : H0 D = none) : Ext m0 H0 (m ++ [D]) H where
  pre := e.pre.trans (List.prefix_append _ _)
  keep := e.keep
  out := fun a o h1 h2 n h3 => by
    rcases List.mem_append.mp h3 with z | z
    · exact e.out a o h1 h2 n z
    · rw [List.mem_singleton.mp z, hD] at h2
      cases h2
  lst := e.lst
theorem Ext.updOut (e : Ext m0 H0 m H) {D : Addr} {ys : List V} (hD : H0 D = none) (hm : D ∉ m) : Ext m0 H0 m (upd H D (.lst ys)) where
  pre := e.pre
  keep := fun a o h1 h2 n => by
    rw [upd_ne]
    · exact e.keep a o h1 h2 n
    · rintro rfl
      rw [hD] at h2
      cases h2
  out := e.out
  lst := fun a ha h => by
    obtain ⟨vs, q⟩ := e.lst a ha h
    refine ⟨vs, ?_⟩
    rw [upd_ne]
    · exact q
    · rintro rfl
      exact hm (e.pre.subset ha)
end

/-! ### targets -/
def OnlyAt (l : List Nat) (σ σ' : L2.St) : Prop := σ'.length = σ.length ∧ ∀ i, i ∉ l → σ'[i]? = σ[i]?
theorem wipe_in {σ : L2.St} {i : Nat} : ∀ {vs : List Nat}, i ∈ vs → (wipe σ vs)[i]? = if i < σ.length then some none else none
  | [], h => by cases h
  | v :: vs, h => by
    unfold wipe
    by_cases hv : v = i
    · subst hv
      split
      · rename_i hl
        rw [List.getElem?_set_self (by rw [wipe_length]; exact hl)]
      · rename_i hl
        rw [List.getElem?_eq_none (by rw [List.length_set, wipe_length]; omega)]
    · rw [List.getElem?_set_ne hv]
      rcases List.mem_cons.mp h with e | e
      · exact absurd e.symm hv
      · exact wipe_in e
theorem wipe_only {σ σ' : L2.St} {l vs : List Nat} (h : OnlyAt l (wipe σ vs) σ') (hl : ∀ j ∈ l, j ∈ vs) : wipe σ' vs = wipe σ vs := by
  obtain ⟨h1, h2⟩ := h
  rw [wipe_length] at h1
  apply List.ext_getElem?
  intro i
  by_cases hi : i ∈ vs
  · rw [wipe_in hi, wipe_in hi, h1]
  · rw [wipe_out hi]
    exact h2 i fun q => hi (hl i q)
/-- a target's reading -/
def gR (B : Bd) (tg : Tg) : TG := fun v σ H Q => ∃ m ρ S d ρ', Rel B m H S ∧ EnvR B m H σ ρ ∧ Rep B m H v d ∧ setT ρ tg d = some ρ' ∧ ∀ σ', EnvR B m H σ' ρ' → OnlyAt (tgSlots tg) σ σ' → Q σ' H
def gAll : List Nat → TGs
  | [] => gNil
  | i :: is => gCons (gName i) (gAll is)
theorem gAll_ok {B : Bd} {m : List Addr} {H : Hp} : ∀ (is : List Nat) {vs : List V} {ds : List D} {σ : L2.St} {ρ ρ' : Env} {Q : L2.St → Hp → Prop}, Reps B m H vs ds → EnvR B m H σ ρ → setAll ρ is ds = some ρ' → (∀ σ', EnvR B m H σ' ρ' → OnlyAt is σ σ' → Q σ' H) → gAll is vs σ H Q
  | [], vs, [], σ, ρ, ρ', Q, r, er, e, hq => by
    cases r
    cases e
    exact ⟨rfl, hq σ er ⟨rfl, fun _ _ => rfl⟩⟩
  | i :: is, vs, d :: ds, σ, ρ, ρ', Q, r, er, e, hq => by
    cases r with
    | cons h hs =>
      refine ⟨_, _, rfl, ?_⟩
      refine gAll_ok is hs (er.set i h) e fun σ' er' o => hq σ' er' ⟨by simpa using o.1, fun j hj => ?_⟩
      rw [o.2 j (fun q => hj (List.mem_cons_of_mem _ q)), List.getElem?_set_ne (fun q => hj (by rw [q]; exact List.mem_cons_self ..))]
  | [], _, _ :: _, _, _, _, _, _, _, e, _ => by cases e
  | _ :: _, _, [], _, _, _, _, _, _, e, _ => by cases e
section
variable {X : Cx} {B : Bd} {C : Cs} {P : Par} {W : WXH}
theorem stor_ok (ok : Okb X B C P W) {x : Str} {i : Nat} (h : storOf C x = some i) : X.N[i]? = some x ∧ L2.Loc X.env.scope x ∧ (X.fn x = true ∨ X.env.scope.names.lookup x = some .local) := by
  unfold storOf at h
  rw [ok.N, ok.sc]
  split at h
  · rename_i hl
    exact ⟨ixOf_get h, Or.inl hl, .inr hl⟩
  · rename_i hl
    split at h
    · rename_i hf
      exact ⟨ixOf_get h, .inr hl, .inl (ok.fnc x hf)⟩
    · cases h
  · cases h
theorem pg_one (ok : Okb X B C P W) {x : Str} {i : Nat} {pos : Pos} (h : storOf C x = some i) : PG X (.Name x pos) (gName i) := by
  obtain ⟨h1, h2, h3⟩ := stor_ok ok h
  exact pg_name (by rw [ok.N]; exact ok.nd) h1 h2 h3
theorem pgs_of (ok : Okb X B C P W) : ∀ {es : List Expr} {is : List Nat}, tgNames C es = some is → PGs X es (gAll is) ∧ (assignEach es X.env).length = is.length ∧ (assignEach es X.env).findIdx? (·.1) = none
  | [], is, h => by
    cases h
    exact ⟨pgs_nil, rfl, rfl⟩
  | e :: es, is, h => by
    unfold tgNames at h
    split at h
    · rename_i q; cases q
    · rename_i x p r q
      cases q
      split at h
      · rename_i i js h1 h2
        cases h
        obtain ⟨h3, h4, h5⟩ := pgs_of ok h2
        refine ⟨pgs_cons (pg_one ok h1) h3 rfl, ?_, ?_⟩
        · show (assignEach es X.env).length + 1 = js.length + 1
          rw [h4]
        · show ((false, assign (.Name x p) X.env) :: assignEach es X.env).findIdx? (·.1) = none
          rw [List.findIdx?_cons, h5]
          rfl
      · cases h
    · cases h
theorem setAll_len : ∀ {is : List Nat} {ds : List D} {ρ ρ' : Env}, setAll ρ is ds = some ρ' → ds.length = is.length
  | [], [], _, _, _ => rfl
  | i :: is, d :: ds, ρ, ρ', e => by
    have := setAll_len (is := is) (ds := ds) e
    simp [this]
  | [], _ :: _, _, _, e => by cases e
  | _ :: _, [], _, _, e => by cases e
theorem s_tg (ok : Okb X B C P W) {tg : Expr} {g : Tg} (h : cT C tg = some g) : PG X tg (gR B g) := by
  unfold cT at h
  split at h
  · obtain ⟨i, h1, rfl⟩ := Option.map_eq_some_iff.mp h
    refine ⟨fun pins s σ H v u Q I r ⟨m, ρ, S, d, ρ', rel, er, rv, e, hq⟩ => (pg_one ok h1).run pins s σ H v u Q I r ?_⟩
    cases e
    exact hq _ (er.set i rv) ⟨by simp, fun j hj => List.getElem?_set_ne (fun q => hj (by rw [q]; exact List.mem_singleton_self _))⟩
  · split at h
    · rename_i hc
      obtain ⟨is, h1, rfl⟩ := Option.map_eq_some_iff.mp h
      obtain ⟨h3, h4, h5⟩ := pgs_of ok h1
      refine ⟨fun pins s σ H v u Q I r ⟨m, ρ, S, d, ρ', rel, er, rv, e, hq⟩ => (pg_tup (ok.cm hc) h3 h4 h5).run pins s σ H v u Q I r ?_⟩
      unfold setT at e
      split at e
      · rename_i q; cases q
      · rename_i js ds q
        cases q
        cases rv with
        | @tup a xs _ ht hr =>
          refine ⟨a, xs, rfl, by rw [ok.is.K]; exact ht, ?_, gAll_ok is hr er e hq⟩
          rw [hr.length]
          exact setAll_len e
      · cases e
    · cases h
  · cases h


/-! ### comprehensions -/
theorem bind_assoc {α β γ : Type} (r : Res α) (f : α → Sto → Res β) (g : β → Sto → Res γ) : (r.bind f).bind g = r.bind fun a S => (f a S).bind g := by
  cases r <;> rfl
theorem stepC {α β γ δ : Type} {R : List Addr → Hp → β → α → Prop} {R2 : List Addr → Hp → δ → γ → Prop} {m m0 : List Addr} {H H0 : Hp} {S : Sto} {σ : L2.St} {ρ : Env} (f : Env → Sto → Res α) {k : α → Sto → Res γ} {Q : δ → Hp → Prop} {Q' : β → Hp → Prop} (rel : Rel B m H S) (er : EnvR B m H σ ρ)
    (h : PostE B R2 ((f ρ S).calm.bind k) m0 H0 Q W) (hk : ∀ b m1 H1 S1 a, Ext m H m1 H1 → Rel B m1 H1 S1 → EnvR B m1 H1 σ ρ → R m1 H1 b a → PostE B R2 (k a S1) m0 H0 Q W → Q' b H1) : rG B R NoW f σ H Q' := by
  refine ⟨m, ρ, S, rel, er, ?_⟩
  cases q : f ρ S with
  | ok a S1 =>
    rw [q] at h
    intro m1 H1 b e rel1 r1
    exact hk b m1 H1 S1 a e rel1 (er.ext rel e) r1 h
  | er x S1 =>
    rw [q] at h
    exact h.elim
  | no =>
    rw [q] at h
    exact h.elim
theorem takesNo {X : Cx} : Takes X (fun c d _ H => NoW c d H) := LamX.takes0
/-- the block of a comprehension -/
theorem Okb.blk (ok : Okb X B C P W) (hc : C.calm = true) {s : Shared} {H : Hp} {Ca : Addr} {cl : List (Str × Addr)} {fp : List Addr} {scope : Scope} :
    Okb (X.blk s H scope (compEnvC scope cl Ca X.env) fp) B (blkCs C scope) P NoW where
  is := ⟨ok.is.K, ok.is.mg, ok.is.un⟩
  N := ok.N
  nd := ok.nd
  sc := by
    show relS scope X.env.scope = relS scope C.sc
    rw [ok.sc]
  cm := ok.cm
  pc := ok.pc
  fnc := fun x hx => by
    show (scope.names.lookup x == some .cell) = true
    obtain ⟨y, h1, rfl⟩ := List.mem_map.mp hx
    have := (List.mem_filter.mp h1).2
    rw [decide_eq_true_eq] at this
    rw [this]
    rfl
  blt := ok.blt
  glo := ok.glo
  fn := fun x n hc hk => by
    obtain ⟨f, fd, ps, k, F, hr, hm, hkp, hb⟩ := (ok.fn x n hc hk).ex
    exact ⟨f, fd, ps, k, F, hr, hm, hkp, hb⟩
  tk := takesNo
  cls := ok.cls
  hand := .inl (ok.hc hc)
  hc := ok.hc
/-- a comprehension's turns -/
def lcTurn (P : Par) (elt : E) (tg : Tg) (test : E) (own : List Nat) (ρ : Env) : D → Sto → Res (Option D) := fun d S2 => (match setT (wipeD ρ own) tg d with
      | none => .no
      | some ρ1 => (ev P test ρ1 S2).calm.bind fun b S3 => (match b with
        | .bl true => (ev P elt ρ1 S3).calm.bind fun y S4 => .ok (some y) S4
        | .bl false => .ok none S3
        | _ => .no))
theorem lcTurn_none {elt test : E} {tg : Tg} {own : List Nat} {ρ : Env} {d : D} {S : Sto} (h : setT (wipeD ρ own) tg d = none) : lcTurn P elt tg test own ρ d S = .no := by
  unfold lcTurn
  rw [h]
theorem lcTurn_some {elt test : E} {tg : Tg} {own : List Nat} {ρ ρ1 : Env} {d : D} {S : Sto} (h : setT (wipeD ρ own) tg d = some ρ1) : lcTurn P elt tg test own ρ d S = (ev P test ρ1 S).calm.bind fun b S3 => (match b with
        | .bl true => (ev P elt ρ1 S3).calm.bind fun y S4 => .ok (some y) S4
        | .bl false => .ok none S3
        | _ => .no) := by
  unfold lcTurn
  rw [h]
theorem lc_read {elt test : E} {tg : Tg} {it : Ic} {own : List Nat} (hown : ∀ j ∈ tgSlots tg, j ∈ own) {σ : L2.St} {H : Hp} {Q : VK} (h : rE B P W (.lc elt tg it test own) σ H Q) :
    tLc (rI B P W it) (gR B tg) (tB (rE B P NoW test)) (rE B P NoW elt) own σ H Q := by
  obtain ⟨m, ρ, S, rel, er, h⟩ := h
  refine step (evi P it) rel er h fun J m1 H1 S1 src e1 rel1 er1 r1 h1 => ?_
  replace h1 : PostE B (Rep B) ((lcLoop src (lcTurn P elt tg test own ρ) P.fuel 0 [] S1).bind fun ds S2 => new (.lst ds) S2) m1 H1 Q W := h1
  intro Da hDa
  refine ⟨fun i k Hc => ∃ mc Sc acc vacc, Ext m1 H1 mc Hc ∧ Rel B mc Hc Sc ∧ Da ∉ mc ∧ Hc Da = some (.lst vacc) ∧ Reps B mc Hc vacc acc ∧ PostE B (Rep B) ((lcLoop src (lcTurn P elt tg test own ρ) k i acc Sc).bind fun ds S2 => new (.lst ds) S2) m1 H1 Q W, ⟨P.fuel, m1, S1, [], [], Ext.new hDa, rel1.new0 hDa, fun hm => absurd rfl (rel1.ne hDa hm), upd_same, .nil, h1⟩, ?_⟩
  rintro i k Hc ⟨mc, Sc, acc, vacc, ec, relc, hDm, hDv, ra, hp⟩
  cases k with
  | zero => exact hp.elim
  | succ k =>
    have hsrc := r1 i mc Hc Sc ec relc
    unfold lcLoop at hp
    cases hi : item Sc src i with
    | none =>
      rw [hi] at hp
      exact hp.elim
    | some o =>
      rw [hi] at hp hsrc
      cases o with
      | none =>
        refine .inl ⟨hsrc, ?_⟩
        have hp : PostE B (Rep B) (new (.lst acc) Sc) m1 H1 Q W := hp
        refine hp (mc ++ [Da]) Hc (.ref Da) (ec.take hDa) (relc.take (D' := Unit) (ds := []) hDv hDm ra) (.obj ?_)
        rw [← relc.len, List.getElem?_append_right (Nat.le_refl _)]
        simp
      | some d =>
        obtain ⟨hgo, hy⟩ := hsrc
        refine .inr ⟨hgo, fun H' => ∃ mc Sc acc vacc, Ext m1 H1 mc H' ∧ Rel B mc H' Sc ∧ Da ∉ mc ∧ H' Da = some (.lst vacc) ∧ Reps B mc H' vacc acc ∧ PostE B (Rep B) ((lcLoop src (lcTurn P elt tg test own ρ) k (i + 1) acc Sc).bind fun ds S2 => new (.lst ds) S2) m1 H1 Q W, fun H' q => ⟨k, Nat.lt_succ_self k, q⟩, fun x H' hyd => ?_⟩
        obtain ⟨e2, rel2, rx⟩ := hy x H' hyd
        have hp : PostE B (Rep B) ((((lcTurn P elt tg test own ρ) d Sc).bind fun r S1 => (match r with
      | none => lcLoop src (lcTurn P elt tg test own ρ) k (i + 1) acc S1
      | some y => if acc.length < sizeLine then lcLoop src (lcTurn P elt tg test own ρ) k (i + 1) (acc ++ [y]) S1 else .no)).bind fun ds S2 => new (.lst ds) S2) m1 H1 Q W := hp
        cases hs : setT (wipeD ρ own) tg d with
        | none =>
          rw [lcTurn_none hs] at hp
          exact hp.elim
        | some ρ1 =>
          rw [lcTurn_some hs] at hp
          have ec2 := ec.trans e2
          have hD2 : H' Da = some (.lst vacc) := e2.keep Da _ hDm hDv fun ps z => by cases z
          have hDm2 : Da ∉ mc := hDm
          have ra2 := ra.ext relc e2
          have er2 : EnvR B mc H' (wipe σ own) (wipeD ρ own) := (er1.ext rel1 ec2).wipe own
          refine ⟨mc, wipeD ρ own, Sc, d, ρ1, rel2, er2, rx, hs, fun σ' er' oa => ⟨wipe_only oa hown, ?_⟩⟩
          rw [bind_assoc, bind_assoc] at hp
          refine stepC (ev P test) rel2 er' hp fun b m3 H3 S3 db e3 rel3 er3 r3 h3 => ?_
          have hD3 : H3 Da = some (.lst vacc) := e3.keep Da _ hDm2 hD2 fun ps z => by cases z
          have hDm3 : Da ∉ m3 := e3.out Da _ hDm2 hD2 fun ps z => by cases z
          have ra3 := ra2.ext rel2 e3
          cases db with
          | bl bb =>
            cases r3
            refine ⟨bb, rfl, ?_⟩
            cases bb with
            | true =>
              rw [if_pos rfl]
              replace h3 : PostE B (Rep B) (((ev P elt ρ1 S3).calm.bind fun y S4 => Res.ok (some y) S4).bind fun r S1 => ((match r with
      | none => lcLoop src (lcTurn P elt tg test own ρ) k (i + 1) acc S1
      | some y => if acc.length < sizeLine then lcLoop src (lcTurn P elt tg test own ρ) k (i + 1) (acc ++ [y]) S1 else .no)).bind fun ds S2 => new (.lst ds) S2) m1 H1 Q W := h3
              rw [bind_assoc] at h3
              refine stepC (ev P elt) rel3 er3 h3 fun y m4 H4 S4 dy e4 rel4 er4 r4 h4 => ?_
              have hD4 : H4 Da = some (.lst vacc) := e4.keep Da _ hDm3 hD3 fun ps z => by cases z
              have hDm4 : Da ∉ m4 := e4.out Da _ hDm3 hD3 fun ps z => by cases z
              have ra4 := ra3.ext rel3 e4
              have h4 : PostE B (Rep B) ((if acc.length < sizeLine then lcLoop src (lcTurn P elt tg test own ρ) k (i + 1) (acc ++ [dy]) S4 else .no).bind fun ds S2 => new (.lst ds) S2) m1 H1 Q W := h4
              split at h4
              · rename_i hz
                refine ⟨vacc, hD4, by rw [ra4.length]; exact hz, m4, S4, acc ++ [dy], vacc ++ [y], ?_, rel4.updOut hD4 hDm4, hDm4, upd_same, (ra4.append (.cons r4 .nil)).low (low_upd hD4), ?_⟩
                · exact ((ec2.trans e3).trans e4).updOut hDa hDm4
                · exact h4
              · exact h4.elim
            | false =>
              rw [if_neg Bool.false_ne_true]
              exact ⟨m3, S3, acc, vacc, ec2.trans e3, rel3, hDm3, hD3, ra3, h3⟩
          | _ => exact h3.elim
end
end Pi

set_option Elab.async false
set_option linter.all false
set_option maxHeartbeats 4000000
namespace Pi
open PySem L2 PyProof.Rows
section
variable {X : Cx} {B : Bd} {C : Cs} {P : Par} {W : WXH}
theorem sI_zip (ok : Okb X B C P W) {a b : Expr} {x y : E} {p pos tpos : Pos} {elts : List Expr} {kk : Nat} (hg : Gl X "zip") (hm : X.mg "zip" = none) (hn : noStar [a, b] = true) (ha : PE X a (rE B P W x)) (hb : PE X b (rE B P W y)) : PI X (.Tuple elts kk tpos) (.Call (.Name "zip" p) [a, b] [] pos) (rI B P W (.zip x y)) :=
  PI.imp (RZ.pi_zipA hg hm (pa_cons ha (pa_cons hb pa_nil (starEach_ns (noStar_cons (noStar_cons hn).2).1)) (starEach_ns (noStar_cons hn).1)) (starEach_ns (noStar_cons hn).1) (star_any (noStar_cons hn).2)) fun σ H Q ⟨m, ρ, S, rel, er, h⟩ => step (ev P x) rel er h fun v m1 H1 S1 d e1 rel1 er1 r1 h1 =>
    step (ev P y) rel1 er1 h1 fun w m2 H2 S2 d2 e2 rel2 er2 r2 h2 => by
      split at h2
      · rename_i s t hs ht
        split at h2
        · rename_i hk
          obtain ⟨a, rfl, q⟩ := srcOf_rep rel2 (r1.ext rel1 e2) hs
          obtain ⟨b, rfl, q'⟩ := srcOf_rep rel2 r2 ht
          rcases q with ⟨xs, g1, g2, g3, t1⟩ | ⟨xs, ds, g1, g2, rfl, t1⟩
          · rcases q' with ⟨ys, g4, g5, g6, t2⟩ | ⟨ys, es, g4, g5, rfl, t2⟩
            · refine ⟨a, b, xs, ys, rfl, ?_⟩
              rw [ok.is.K]
              exact .inl ⟨g1, g4, h2 m2 H2 _ Ext.refl rel2 (src_zipL g2 g5 g3 g6)⟩
            · rw [t1, t2] at hk; cases hk
          · rcases q' with ⟨ys, g4, g5, g6, t2⟩ | ⟨ys, es, g4, g5, rfl, t2⟩
            · rw [t1, t2] at hk; cases hk
            · refine ⟨a, b, xs, ys, rfl, ?_⟩
              rw [ok.is.K]
              exact .inr ⟨g1, g4, h2 m2 H2 _ Ext.refl rel2 (src_zipT (src_tup rel2 g1 g2) (src_tup rel2 g4 g5) (fun m H S e _ => ⟨xs, rel2.sqt e g1⟩) fun m H S e _ => ⟨ys, rel2.sqt e g4⟩)⟩
        · exact h2.elim
      · exact h2.elim
theorem s_isE (ok : Okb X B C P W) {x : Str} {a : Expr} {w : E} {p p2 pos : Pos} (h1 : isBl C "isinstance" = true) (h2 : isCls C x = true) (h3 : isGl C x = true) (hn : noStar [a] = true) (h : PE X a (rE B P W w)) : PE X (.Call (.Name "isinstance" p) [a, .Name x p2] [] pos) (rE B P W (.isE w x)) := by
  rcases ok.hand with e | g
  · obtain ⟨g1, g2, g3⟩ := ok.bl h1 (by decide)
    obtain ⟨k1, k2⟩ := ok.gl h3
    obtain ⟨Ka, hK⟩ := ok.cls x h2
    have hc : CallR X (.builtin "isinstance") (fun _ _ _ => False) := fun _ _ _ _ _ _ _ _ _ z => z.elim
    refine PE.imp (pe_callB hc g1 g3 boot_isinstance (pa_cons h (pa_cons (pe_glob k1 hK (v := .ref Ka) rfl k2.d) pa_nil) (starEach_ns (noStar_cons hn).1)) g2.n g2.d (starEach_ns (noStar_cons hn).1) rfl) fun σ H Q ⟨m, ρ, S, rel, er, h⟩ => step (ev P w) rel er h fun v m1 H1 S1 d e1 rel1 er1 r1 h1 => ?_
    rw [e] at h1
    split at h1
    · rename_i q; cases q
    · exact h1.elim
  · exact g.isE x a w p p2 pos h1 h2 h3 hn h
theorem s_fld (ok : Okb X B C P W) {f : Str} {a : Expr} {w : E} {pos : Pos} (hn : noCall0 a = true) (h : PE X a (rE B P W w)) : PE X (.Attribute a f pos) (rE B P W (.fld w f)) := by
  rcases ok.hand with e | g
  · refine ⟨fun pins s σ H Q I ⟨m, ρ, S, rel, er, hq⟩ => ?_⟩
    refine attr_of (base_of hn) (thn (h.run pins s σ H (fun _ _ => False) I (step (ev P w) rel er hq fun v m1 H1 S1 d e1 rel1 er1 r1 h1 => ?_)) fun u s1 ⟨_, _, _, _, z⟩ => z.elim)
    rw [e] at h1
    split at h1
    · rename_i q; cases q
    · exact h1.elim
  · exact g.fld f a w pos hn h
end

/-- what each part of the translation promises -/
structure Snd (B : Bd) (f : Nat) : Prop where
  e : ∀ {C e x}, cE f C e = some x → ∀ {X P W}, Okc X B C P W → PE X e (rE B P W x) ∧ PT X e (tB (rE B P W x))
  es : ∀ {C es xs}, cEs f C es = some xs → ∀ {X P W}, Okc X B C P W → PA X es (rEs B P W xs)
  o : ∀ {C o x}, cO f C o = some x → ∀ {X P W}, Okc X B C P W → PO X o (rO B P W x)
  bool : ∀ {C op es x}, cBool f C op es = some x → ∀ {X P W pos}, Okc X B C P W → PE X (.BoolOp op es pos) (rE B P W x) ∧ PW X (.BoolOp op es pos) (tB (rE B P W x))
  ifs : ∀ {C es x}, cIfs f C es = some x → ∀ {X P W}, Okc X B C P W → PTs X es (tB (rE B P W x))
  i : ∀ {C tg e x}, cI f C tg e = some x → ∀ {X P W}, Okc X B C P W → PI X tg e (rI B P W x)
  b : ∀ {C n es x}, cB f C n es = some x → isGl C n = true → C.G.lookup n = none → ∀ {X P W p pos}, Okc X B C P W → PE X (.Call (.Name n p) es [] pos) (rE B P W x)
  b1 : ∀ {C n es x}, cB1 f C n es = some x → isGl C n = true → C.G.lookup n = none → noStar es = true → ∀ {X P W p pos}, Okc X B C P W → PE X (.Call (.Name n p) es [] pos) (rE B P W x)
theorem Okc.blk {X : Cx} {B : Bd} {C : Cs} {P : Par} {W : WXH} (ok : Okc X B C P W) (hc : C.calm = true) {s : Shared} {H : Hp} {Ca : Addr} {cl : List (Str × Addr)} {fp : List Addr} {scope : Scope} :
    Okc (X.blk s H scope (compEnvC scope cl Ca X.env) fp) B (blkCs C scope) P NoW := ⟨ok.toOkb.blk hc, fun h => by cases h⟩
theorem snd_es {B : Bd} {f : Nat} (ih : Snd B f) {C : Cs} {es : List Expr} {xs : Es} (h : cEs (f + 1) C es = some xs) {X : Cx} {P : Par} {W : WXH} (ok : Okc X B C P W) : PA X es (rEs B P W xs) := by
  unfold cEs at h
  split at h
  · cases h
  · cases ‹f + 1 = Nat.succ _›
    cases h; exact s_nil
  · cases ‹f + 1 = Nat.succ _›
    split at h
    · rename_i h1 h2
      cases h
      exact s_star ok.toOkb (ih.e h1 ok).1 (ih.es h2 ok)
    · cases h
  · rename_i hne hq
    cases hq
    split at h
    · rename_i h1 h2
      cases h
      exact s_cons (fun e' p q => hne _ _ q) (ih.e h1 ok).1 (ih.es h2 ok)
    · cases h
theorem snd_o {B : Bd} {f : Nat} (ih : Snd B f) {C : Cs} {o : Option Expr} {x : Op} (h : cO (f + 1) C o = some x) {X : Cx} {P : Par} {W : WXH} (ok : Okc X B C P W) : PO X o (rO B P W x) := by
  unfold cO at h
  split at h
  · cases h
  · cases ‹f + 1 = Nat.succ _›
    cases h; exact s_oN
  · cases ‹f + 1 = Nat.succ _›
    obtain ⟨y, h1, rfl⟩ := Option.map_eq_some_iff.mp h
    exact s_oS (ih.e h1 ok).1
theorem snd_ifs {B : Bd} {f : Nat} (ih : Snd B f) {C : Cs} {es : List Expr} {x : E} (h : cIfs (f + 1) C es = some x) {X : Cx} {P : Par} {W : WXH} (ok : Okc X B C P W) : PTs X es (tB (rE B P W x)) := by
  unfold cIfs at h
  split at h
  · cases h
  · cases ‹f + 1 = Nat.succ _›
    cases h
    exact PTs.imp pts_nil fun σ H Q ⟨m, ρ, S, rel, er, h⟩ => by
      obtain ⟨c, e, q⟩ := h m H (.bl true) Ext.refl rel (.bl true)
      cases e
      exact q
  · cases ‹f + 1 = Nat.succ _›
    exact pts_one (ih.e h ok).2
  · cases h
theorem snd_bool {B : Bd} {f : Nat} (ih : Snd B f) {C : Cs} {op : BoolOp} {es : List Expr} {x : E} (h : cBool (f + 1) C op es = some x) {X : Cx} {P : Par} {W : WXH} {pos : Pos} (ok : Okc X B C P W) :
    PE X (.BoolOp op es pos) (rE B P W x) ∧ PW X (.BoolOp op es pos) (tB (rE B P W x)) := by
  cases op with
  | And =>
    unfold cBool at h
    split at h
    · cases h
    · cases h
    · cases ‹f + 1 = Nat.succ _›
      obtain ⟨h1, h2⟩ := ih.e h ok
      exact ⟨pe_one h1, pw_and1 h2⟩
    · cases ‹f + 1 = Nat.succ _›
      split at h
      · rename_i h1 h2
        obtain ⟨a1, a2⟩ := ih.e h1 ok
        obtain ⟨b1, b2⟩ := ih.bool (pos := pos) h2 ok
        cases h
        exact ⟨s_and a1 b1, sw_and a2 b2⟩
      · cases h
  | Or =>
    unfold cBool at h
    split at h
    · cases h
    · cases h
    · cases ‹f + 1 = Nat.succ _›
      obtain ⟨h1, h2⟩ := ih.e h ok
      exact ⟨pe_one h1, pw_or1 h2⟩
    · cases ‹f + 1 = Nat.succ _›
      split at h
      · rename_i h1 h2
        obtain ⟨a1, a2⟩ := ih.e h1 ok
        obtain ⟨b1, b2⟩ := ih.bool (pos := pos) h2 ok
        cases h
        exact ⟨s_or a1 b1, sw_or a2 b2⟩
      · cases h
theorem cEs_cons {f : Nat} {C : Cs} {e : Expr} {r : List Expr} {xs : Es} (hn : noStar (e :: r) = true) (h : cEs f C (e :: r) = some xs) : ∃ f' x ys, cE f' C e = some x ∧ cEs f' C r = some ys ∧ xs = .cons x ys := by
  cases f with
  | zero => cases h
  | succ f =>
    unfold cEs at h
    split at h
    · cases h
    · cases ‹e :: r = []›
    · cases ‹e :: r = _ :: _›
      cases hn
    · cases ‹f + 1 = Nat.succ _›
      cases ‹e :: r = _ :: _›
      split at h
      · rename_i h1 h2
        cases h
        exact ⟨f, _, _, h1, h2, rfl⟩
      · cases h
theorem noStar_one {e : Expr} (h : ∀ e' p, e = .Starred e' p → False) : noStar [e] = true := by
  cases e <;> first | rfl | exact (h _ _ rfl).elim
theorem cEs_nil {f : Nat} {C : Cs} {xs : Es} (h : cEs f C [] = some xs) : xs = .nil := by
  cases f with
  | zero => cases h
  | succ f =>
    cases h
    rfl
theorem esN_one {f : Nat} {C : Cs} {a : Expr} {xs : Es} (hn : noStar [a] = true) (h : cEs f C [a] = some xs) : esN xs = some 1 := by
  obtain ⟨f', x, ys, _, h2, rfl⟩ := cEs_cons hn h
  rw [cEs_nil h2]
  rfl
theorem esN_two {f : Nat} {C : Cs} {a b : Expr} {xs : Es} (hn : noStar [a, b] = true) (h : cEs f C [a, b] = some xs) : esN xs = some 2 := by
  obtain ⟨f', x, ys, _, h2, rfl⟩ := cEs_cons hn h
  show (esN ys).map _ = _
  rw [esN_one (noStar_cons hn).2 h2]
  rfl
theorem esN_len {C : Cs} : ∀ {es : List Expr} {f : Nat} {xs : Es}, noStar es = true → cEs f C es = some xs → esN xs = some es.length
  | [], _, xs, _, h => by
    rw [cEs_nil h]
    rfl
  | e :: r, f, xs, hn, h => by
    obtain ⟨f', x, ys, _, h2, rfl⟩ := cEs_cons hn h
    show (esN ys).map _ = _
    rw [esN_len (noStar_cons hn).2 h2]
    rfl
theorem snd_b1 {B : Bd} {f : Nat} (ih : Snd B f) {C : Cs} {n : Str} {es : List Expr} {x : E} (h : cB1 (f + 1) C n es = some x) (hg : isGl C n = true) (hk : C.G.lookup n = none) (hn : noStar es = true) {X : Cx} {P : Par} {W : WXH} {p pos : Pos} (ok : Okc X B C P W) : PE X (.Call (.Name n p) es [] pos) (rE B P W x) := by
  unfold cB1 at h
  split at h
  · rename_i hc
    obtain ⟨y, h1, rfl⟩ := Option.map_eq_some_iff.mp h
    simp only [Bool.and_eq_true, Bool.or_eq_true, decide_eq_true_eq] at hc
    cases es with
    | nil => cases hc.2
    | cons e es => exact s_blt ok.toOkb hg hk hc.1 hn (ih.es h1 ok)
  · cases h
theorem snd_b {B : Bd} {f : Nat} (ih : Snd B f) {C : Cs} {n : Str} {es : List Expr} {x : E} (h : cB (f + 1) C n es = some x) (hg : isGl C n = true) (hk : C.G.lookup n = none) {X : Cx} {P : Par} {W : WXH} {p pos : Pos} (ok : Okc X B C P W) : PE X (.Call (.Name n p) es [] pos) (rE B P W x) := by
  unfold cB at h
  split at h
  · rename_i hn
    split at h
    · split at h
      · rename_i hxy
        obtain ⟨rfl, hx⟩ := hxy
        have hbl : isBl C n = true := by unfold isBl; rw [hg, hk]; rfl
        have hxb : n ∈ allB := by rcases hx with rfl | rfl <;> decide
        split at h
        · rename_i hc
          simp only [Bool.and_eq_true, decide_eq_true_eq] at hc
          obtain ⟨⟨c1, c2⟩, c3⟩ := hc
          obtain ⟨g1, g2, g3⟩ := ok.toOkb.bl hbl hxb
          obtain ⟨k1, k2, k3⟩ := ok.toOkb.bl c1 (by decide)
          have hx' : n = (if decide (n = "tuple") = true then "tuple" else "list") := by
            rcases hx with rfl | rfl <;> decide
          split at h
          · obtain ⟨y, h1, rfl⟩ := Option.map_eq_some_iff.mp h
            exact s_rgl1 ok.toOkb (ok.cm c3) hx' g1 g3 k1 k3 c2 (esN_one c2 h1) (ih.es h1 ok)
          · obtain ⟨y, h1, rfl⟩ := Option.map_eq_some_iff.mp h
            exact s_rgl2 ok.toOkb (ok.cm c3) hx' g1 g3 k1 k3 c2 (esN_two c2 h1) (ih.es h1 ok)
          · cases h
        · cases h
      · exact ih.b1 h hg hk hn ok
    · split at h
      · rename_i hc
        obtain ⟨rfl, h2, h3⟩ := hc
        obtain ⟨y, h1, rfl⟩ := Option.map_eq_some_iff.mp h
        have hbl : isBl C "isinstance" = true := by unfold isBl; rw [hg, hk]; rfl
        exact s_isE ok.toOkb hbl h2 h3 (noStar_one (noStar_cons hn).1) (ih.e h1 ok).1
      · exact ih.b1 h hg hk hn ok
    · exact ih.b1 h hg hk hn ok
  · cases h
theorem isTup_inv {tg : Expr} (h : isTup tg = true) : ∃ es k p, tg = .Tuple es k p := by
  cases tg <;> first | exact ⟨_, _, _, rfl⟩ | cases h
theorem snd_i {B : Bd} {f : Nat} (ih : Snd B f) {C : Cs} {tg e : Expr} {x : Ic} (h : cI (f + 1) C tg e = some x) {X : Cx} {P : Par} {W : WXH} (ok : Okc X B C P W) : PI X tg e (rI B P W x) := by
  unfold cI at h
  split at h
  · cases h
  · cases ‹f + 1 = Nat.succ _›
    split at h
    · rename_i hc
      obtain ⟨c1, rfl⟩ := hc
      obtain ⟨k1, k2, k3⟩ := ok.toOkb.bl c1 (by decide)
      split at h
      · split at h
        · rename_i hn
          obtain ⟨y, h1, rfl⟩ := Option.map_eq_some_iff.mp h
          exact sI_rng1 ok.toOkb k1 k3 hn (esN_one hn h1) (ih.es h1 ok)
        · cases h
      · split at h
        · rename_i hn
          obtain ⟨y, h1, rfl⟩ := Option.map_eq_some_iff.mp h
          exact sI_rng2 ok.toOkb k1 k3 hn (esN_two hn h1) (ih.es h1 ok)
        · cases h
      · cases h
    · split at h
      · rename_i hc
        obtain ⟨c1, rfl⟩ := hc
        obtain ⟨k1, k2, k3⟩ := ok.toOkb.bl c1 (by decide)
        split at h
        · split at h
          · rename_i hn
            simp only [Bool.and_eq_true] at hn
            obtain ⟨y, h1, rfl⟩ := Option.map_eq_some_iff.mp h
            obtain ⟨es, kk, tp, rfl⟩ := isTup_inv hn.1
            exact sI_enum ok.toOkb k1 k3 hn.2 (ih.e h1 ok).1
          · cases h
        · cases h
      · split at h
        · rename_i hc
          obtain ⟨c1, rfl⟩ := hc
          obtain ⟨k1, k2, k3⟩ := ok.toOkb.bl c1 (by decide)
          split at h
          · split at h
            · rename_i hn
              simp only [Bool.and_eq_true] at hn
              split at h
              · rename_i h1 h2
                cases h
                obtain ⟨es, kk, tp, rfl⟩ := isTup_inv hn.1
                exact sI_zip ok.toOkb k1 k3 hn.2 (ih.e h1 ok).1 (ih.e h2 ok).1
              · cases h
            · cases h
          · cases h
        · obtain ⟨y, h1, rfl⟩ := Option.map_eq_some_iff.mp h
          exact sI_seq ok.toOkb (ih.e h1 ok).1
  · cases ‹f + 1 = Nat.succ _›
    obtain ⟨y, h1, rfl⟩ := Option.map_eq_some_iff.mp h
    exact sI_seq ok.toOkb (ih.e h1 ok).1
end Pi

set_option Elab.async false
set_option linter.all false
set_option maxHeartbeats 8000000
namespace Pi
open PySem L2 PyProof.Rows
theorem foldSet {e : Expr} {env : PySem.Env} (h : isSet e = false) : ∀ x, foldedSetIterable e env x = pure x := fun x => by
  cases e <;> first | rfl | cases h
theorem snd_lc {B : Bd} {f : Nat} (ih : Snd B f) {C : Cs} {elt tg it : Expr} {ifs : List Expr} {scope : Scope} {pos : Pos} {i : Ic} {g : Tg} {t e : E} (hc : C.calm = true) (hb : blkC C.N C.sc scope (ownOf C.N scope.names) = true) (hs : isSet it = false)
    (h1 : cI f C tg it = some i) (h2 : cT (blkCs C scope) tg = some g) (h3 : cIfs f (blkCs C scope) ifs = some t) (h4 : cE f (blkCs C scope) elt = some e) (h5 : ((tgSlots g).all fun j => decide (j ∈ (ownOf C.N scope.names).map (·.2))) = true)
    {X : Cx} {P : Par} {W : WXH} (ok : Okc X B C P W) : PE X (.ListComp elt [⟨tg, it, ifs, 0⟩] scope pos) (rE B P W (.lc e g i t ((ownOf C.N scope.names).map (·.2)))) := by
  have hN : X.N.Nodup := by rw [ok.N]; exact ok.nd
  refine PE.imp (pe_lc (own := ownOf C.N scope.names) (ok.cm hc) hN (ih.i h1 ok) (blkOk_by (by rw [ok.N, ok.sc]; exact hb))
    (fun s H Ca cl fp => s_tg (ok.blk hc).toOkb h2) (fun s H Ca cl fp => ih.ifs h3 (ok.blk hc)) (fun s H Ca cl fp => (ih.e h4 (ok.blk hc)).1) (foldSet hs)) fun σ H Q h => lc_read (fun j hj => ?_) h
  have := List.all_eq_true.mp h5 j hj
  rwa [decide_eq_true_eq] at this
theorem snd_e {B : Bd} {f : Nat} (ih : Snd B f) {C : Cs} {e : Expr} {x : E} (h : cE (f + 1) C e = some x) {X : Cx} {P : Par} {W : WXH} (ok : Okc X B C P W) : PE X e (rE B P W x) ∧ PT X e (tB (rE B P W x)) := by
  unfold cE at h
  split at h
  · cases h
  · -- a name
    cases ‹f + 1 = Nat.succ _›
    refine ⟨?hq1, pt_of ?hq1⟩
    · split at h
      · rename_i i hi
        cases h
        exact s_var ok.toOkb hi
      · split at h
        · rename_i hg
          split at h
          · rename_i hk
            cases h
            exact s_glo ok.toOkb hg hk
          · cases h
          · rename_i hk
            obtain ⟨t, ht, rfl⟩ := Option.map_eq_some_iff.mp h
            exact s_ty ok.toOkb hg hk ht
        · cases h
  · cases h; exact ⟨s_c pe_int fun _ _ => .int _, pt_of (s_c pe_int fun _ _ => .int _)⟩
  · cases h; exact ⟨s_c pe_bl fun _ _ => .bl _, pt_of (s_c pe_bl fun _ _ => .bl _)⟩
  · cases h; exact ⟨s_c pe_str fun _ _ => .str _, pt_of (s_c pe_str fun _ _ => .str _)⟩
  · cases h; exact ⟨s_c pe_non fun _ _ => .non, pt_of (s_c pe_non fun _ _ => .non)⟩
  · cases ‹f + 1 = Nat.succ _›
    obtain ⟨q1, q2⟩ := ih.bool h ok
    exact ⟨q1, q2.pt⟩
  · cases ‹f + 1 = Nat.succ _›
    split at h
    · rename_i h1 h2
      cases h
      exact ⟨s_bin ok.toOkb (ih.e h1 ok).1 (ih.e h2 ok).1, pt_of (s_bin ok.toOkb (ih.e h1 ok).1 (ih.e h2 ok).1)⟩
    · cases h
  · cases ‹f + 1 = Nat.succ _›
    obtain ⟨y, h1, rfl⟩ := Option.map_eq_some_iff.mp h
    exact ⟨s_neg (ih.e h1 ok).1, pt_of (s_neg (ih.e h1 ok).1)⟩
  · cases ‹f + 1 = Nat.succ _›
    obtain ⟨y, h1, rfl⟩ := Option.map_eq_some_iff.mp h
    exact ⟨s_not (ih.e h1 ok).1, st_not (ih.e h1 ok).2⟩
  · cases ‹f + 1 = Nat.succ _›
    split at h
    · rename_i h1 h2 h3
      cases h
      exact ⟨s_ite (ih.e h1 ok).2 (ih.e h2 ok).1 (ih.e h3 ok).1, st_ite (ih.e h1 ok).2 (ih.e h2 ok).2 (ih.e h3 ok).2⟩
    · cases h
  · cases ‹f + 1 = Nat.succ _›
    obtain ⟨y, h1, rfl⟩ := Option.map_eq_some_iff.mp h
    exact ⟨s_tup (ih.es h1 ok), pt_of (s_tup (ih.es h1 ok))⟩
  · cases ‹f + 1 = Nat.succ _›
    obtain ⟨y, h1, rfl⟩ := Option.map_eq_some_iff.mp h
    exact ⟨s_lst (ih.es h1 ok), pt_of (s_lst (ih.es h1 ok))⟩
  · cases ‹f + 1 = Nat.succ _›
    split at h
    · cases h
    · rename_i hs
      split at h
      · rename_i h1 h2
        cases h
        exact ⟨s_cmp ok.toOkb hs (ih.e h1 ok).1 (ih.e h2 ok).1, st_cmp ok.toOkb hs (ih.e h1 ok).1 (ih.e h2 ok).1⟩
      · cases h
  · cases ‹f + 1 = Nat.succ _›
    split at h
    · cases h
    · rename_i hs
      split at h
      · rename_i h1 h2 h3
        cases h
        exact ⟨s_chain ok.toOkb hs (ih.e h1 ok).1 (ih.e h2 ok).1 (ih.e h3 ok).1, st_chain ok.toOkb hs (ih.e h1 ok).1 (ih.e h2 ok).1 (ih.e h3 ok).1⟩
      · cases h
  · -- a slice
    cases ‹f + 1 = Nat.succ _›
    split at h
    · rename_i h1 h2 h3
      cases h
      exact ⟨s_cut ok.toOkb (ih.e h1 ok).1 (ih.o h2 ok) (ih.o h3 ok), pt_of (s_cut ok.toOkb (ih.e h1 ok).1 (ih.o h2 ok) (ih.o h3 ok))⟩
    · cases h
  · cases ‹f + 1 = Nat.succ _›
    obtain ⟨y, h1, rfl⟩ := Option.map_eq_some_iff.mp h
    exact ⟨s_rev ok.toOkb (ih.e h1 ok).1, pt_of (s_rev ok.toOkb (ih.e h1 ok).1)⟩
  · cases ‹f + 1 = Nat.succ _›
    split at h
    · cases h
    · rename_i hs
      split at h
      · rename_i h1 h2
        cases h
        exact ⟨s_ix ok.toOkb hs (ih.e h1 ok).1 (ih.e h2 ok).1, pt_of (s_ix ok.toOkb hs (ih.e h1 ok).1 (ih.e h2 ok).1)⟩
      · cases h
  · cases ‹f + 1 = Nat.succ _›
    split at h
    · rename_i hn
      obtain ⟨y, h1, rfl⟩ := Option.map_eq_some_iff.mp h
      exact ⟨s_fld ok.toOkb hn (ih.e h1 ok).1, pt_of (s_fld ok.toOkb hn (ih.e h1 ok).1)⟩
    · cases h
  · -- a method's call
    cases ‹f + 1 = Nat.succ _›
    split at h
    · rename_i hn
      simp only [Bool.and_eq_true, decide_eq_true_eq] at hn
      obtain ⟨⟨⟨n1, n2⟩, n3⟩, n4⟩ := hn
      split at h
      · rename_i h1 h2
        cases h
        refine ⟨?hq2, pt_of ?hq2⟩
        exact s_mth ok.toOkb n1 n2 n3 n4 (ih.e h1 ok).1 (ih.es h2 ok) (fun e => by subst e; exact cEs_nil h2)
      · cases h
    · cases h
  · -- a call
    cases ‹f + 1 = Nat.succ _›
    refine ⟨?hq3, pt_of ?hq3⟩
    · split at h
      · rename_i hg
        split at h
        · rename_i n hk
          split at h
          · rename_i hn
            simp only [Bool.and_eq_true, decide_eq_true_eq] at hn
            split at h
            · rename_i xs h1
              split at h
              · rename_i hl
                cases h
                cases ‹List Expr› with
                | nil => 
                  have e0 := cEs_nil h1
                  subst e0
                  exact s_call0 ok.toOkb hg hk hn.2 hl
                | cons e es => exact s_call ok.toOkb hg hk hn.2 hn.1 hl (ih.es h1 ok)
              · cases h
            · cases h
          · cases h
        · rename_i hk
          split at h
          · split at h
            · rename_i hn
              simp only [Bool.and_eq_true, decide_eq_true_eq] at hn
              obtain ⟨y, h1, rfl⟩ := Option.map_eq_some_iff.mp h
              exact ok.told hn.1.2 _ _ _ _ _ _ _ _ hk hg hn.1.1 hn.2 fun X' W' ok' => (ih.e h1 ⟨ok', fun z => by cases z⟩).1
            · cases h
          · cases h
        · cases h
        · rename_i hk
          exact ih.b h hg hk ok
      · cases h
  · -- a comprehension
    cases ‹f + 1 = Nat.succ _›
    split at h
    · rename_i hn
      simp only [Bool.and_eq_true, decide_eq_true_eq, Bool.not_eq_true'] at hn
      split at h
      · rename_i h1 h2 h3 h4
        split at h
        · rename_i h5
          cases h
          refine ⟨?hq4, pt_of ?hq4⟩
          exact snd_lc ih hn.1.1 hn.1.2 hn.2 h1 h2 h3 h4 h5 ok
        · cases h
      · cases h
    · cases h
  · cases h
  · cases h
theorem sound (B : Bd) : ∀ f, Snd B f
  | 0 => ⟨fun h => (by cases h), fun h => (by cases h), fun h => (by cases h), fun h => (by cases h), fun h => (by cases h), fun h => (by cases h), fun h => (by cases h), fun h => (by cases h)⟩
  | f + 1 => ⟨fun h _ _ _ ok => snd_e (sound B f) h ok, fun h _ _ _ ok => snd_es (sound B f) h ok, fun h _ _ _ ok => snd_o (sound B f) h ok, fun h _ _ _ _ ok => snd_bool (sound B f) h ok, fun h _ _ _ ok => snd_ifs (sound B f) h ok,
    fun h _ _ _ ok => snd_i (sound B f) h ok, fun h hg hk _ _ _ _ _ ok => snd_b (sound B f) h hg hk ok, fun h hg hk hn _ _ _ _ _ ok => snd_b1 (sound B f) h hg hk hn ok⟩
end Pi

set_option Elab.async false
set_option linter.all false
set_option maxHeartbeats 4000000
namespace Pi
open PySem L2 PyProof.Rows

inductive FlV where
  | nx (σ : L2.St) | rt (v : V) | bk (σ : L2.St) | ct (σ : L2.St)
def RFl (B : Bd) (m : List Addr) (H : Hp) : FlV → Fl → Prop
  | .nx σ, .nx ρ => EnvR B m H σ ρ
  | .rt v, .rt d => Rep B m H v d
  | .bk σ, .bk ρ => EnvR B m H σ ρ
  | .ct σ, .ct ρ => EnvR B m H σ ρ
  | _, _ => False
def endQ (D : Ends) : FlV → Hp → Prop
  | .nx σ, H => D.nx σ H
  | .rt v, H => D.rt v H
  | .bk σ, H => D.bk σ H
  | .ct σ, H => D.ct σ H
def rS (B : Bd) (W : WXH) (f : Env → Sto → Res Fl) : TS := fun D σ H => rG B (RFl B) W f σ H (endQ D)
def rMk (B : Bd) (P : Par) (W : WXH) (x : Str) (xs : Es) : L2.St → Hp → XK → Prop := fun σ H Q => rEs B P W xs σ H fun vs H1 => ∃ m S ds e, Rel B m H1 S ∧ Reps B m H1 vs ds ∧ P.exc x ds = some e ∧ ∀ m' H' cls dd, Ext m H1 m' H' → Rel B m' H' S → ERep B H' cls dd e → Q cls dd H'
structure Oks (X : Cx) (B : Bd) (C : Cs) (P : Par) (W : WXH) : Prop extends Okc X B C P W where
  pass : C.tk = true → PassesOwn (model X.prog X.w) X.A X.env X.xe
  exc : C.tk = true → ∀ (x : Str) (es : List Expr) (xs : Es) (p pos : Pos), clsAr C x = some es.length → isGl C x = true → noStar es = true → (es = [] → xs = .nil) → esN xs = some es.length → PA X es (rEs B P W xs) → PMk X (.Call (.Name x p) es [] pos) (rMk B P W x xs)
section
variable {X : Cx} {B : Bd} {C : Cs} {P : Par} {W : WXH}
theorem noSw {e : Expr} {t : Option Expr} {n : Nat} {env : PySem.Env} (h : ¬ isComp e = true) : swapsWith e t n env = pure false := by
  cases e <;> first | rfl | exact (h rfl).elim
theorem noSt {e : Expr} {ts : List Expr} {k : Nat} {pt : Pos} {env : PySem.Env} (h : ¬ isTup e = true) : swappedStores [.Tuple ts k pt] e env = pure none := by
  cases e <;> first | rfl | exact (h rfl).elim
theorem asg_read {e : E} {i : Nat} {D : Ends} {σ : L2.St} {H : Hp} (h : rS B W (ex P (.asg (.one i) e)) D σ H) : tAsg (rE B P W e) (gName i) D σ H := by
  obtain ⟨m, ρ, S, rel, er, h⟩ := h
  exact step (ev P e) rel er h fun v m1 H1 S1 d e1 rel1 er1 r1 h1 => h1 m1 H1 (.nx _) Ext.refl rel1 (er1.set i r1)
theorem ps_one (ok : Okb X B C P W) {x : Str} {i : Nat} {e : Expr} {v : E} {px pos : Pos} (hi : storOf C x = some i) (he : PE X e (rE B P W v)) (hs : swapsWith e (some (.Name x px)) pos.line X.env = pure false) : PS X (.Assign [.Name x px] e pos) (rS B W (ex P (.asg (.one i) v))) := by
  obtain ⟨h1, h2, h3⟩ := stor_ok ok hi
  exact PS.imp (ps_set (by rw [ok.N]; exact ok.nd) h1 h2 he hs h3) fun D σ H h => asg_read h
theorem rep_slot {m : List Addr} {H : Hp} {σ : L2.St} {ρ : Env} {i : Nat} {d : D} (er : EnvR B m H σ ρ) (h : getV ρ i = some d) : ∃ v, σ[i]? = some (some v) ∧ Rep B m H v d := er.get h
theorem sub_form {o i : Expr} {pos : Pos} {env : PySem.Env} (hs : ¬ isSlice i = true) : ∀ v, assign (.Subscript o i pos) env v = (do
      let ov ← holding [v] (eval o env)
      let iv ← holding [v, ov] (eval i env)
      standAt pos
      holding [v, ov, iv] (setItem ov iv v)
      release [v, ov, iv] []) := fun v => by
  cases i <;> first | rfl | exact (hs rfl).elim
theorem aug_form {i : Expr} (hs : ¬ isSlice i = true) : ∀ ov iv new, augStore i ov iv new = (do holding [new, ov, iv] (setItem ov iv new); release [new, ov, iv] []; pure .next) := fun ov iv new => by
  cases i <;> first | rfl | exact (hs rfl).elim
theorem s_setix {o i e : Expr} {x k v : E} {p pos : Pos} (hs : ¬ isSlice i = true) (hc : ¬ isComp e = true) (ho : PE X o (rE B P W x)) (hi : PE X i (rE B P W k)) (he : PE X e (rE B P W v)) : PS X (.Assign [.Subscript o i p] e pos) (rS B W (ex P (.setix x k v))) :=
  PS.imp (ps_asg he (pg_sub ho hi (set_rB (B := B) (W := W)) (sub_form hs)) (show swapsWith e (some (.Subscript o i p)) pos.line X.env = pure false from noSw hc) (by
    cases e <;> first | rfl | exact (hc rfl).elim) rfl) fun D σ H ⟨m, ρ, S, rel, er, h⟩ => step (ev P v) rel er h fun w m1 H1 S1 d e1 rel1 er1 r1 h1 =>
      step (ev P x) rel1 er1 h1 fun ow m2 H2 S2 dx e2 rel2 er2 r2 h2 => step (ev P k) rel2 er2 h2 fun iw m3 H3 S3 dk e3 rel3 er3 r3 h3 => by
        refine ⟨m3, S3, dx, dk, d, rel3, r2.ext rel2 e3, r3, (r1.ext rel1 e2).ext rel2 e3, ?_⟩
        exact (PostE.bind (R := fun _ _ _ _ => True) h3).mono (fun u H4 ⟨m4, S4, a, e4, rel4, _, h4⟩ => h4 m4 H4 (.nx _) Ext.refl rel4 (er3.ext rel3 e4)) fun _ _ _ h => h
theorem s_drop {e : Expr} {v : E} {pos : Pos} (hc : ¬ isComp e = true) (he : PE X e (rE B P W v)) : PS X (.Expr e pos) (rS B W (ex P (.drop v))) :=
  PS.imp (ps_expr he (noSw hc)) fun D σ H ⟨m, ρ, S, rel, er, h⟩ => step (ev P v) rel er h fun w m1 H1 S1 d e1 rel1 er1 r1 h1 => h1 m1 H1 (.nx _) Ext.refl rel1 er1
theorem s_ret {e : Expr} {v : E} {pos : Pos} (he : PE X e (rE B P W v)) : PS X (.Return (some e) pos) (rS B W (ex P (.ret v))) :=
  PS.imp (ps_ret he) fun D σ H ⟨m, ρ, S, rel, er, h⟩ => step (ev P v) rel er h fun w m1 H1 S1 d e1 rel1 er1 r1 h1 => h1 m1 H1 (.rt _) Ext.refl rel1 r1
theorem s_retn {pos : Pos} : PS X (.Return none pos) (rS B W (ex P .retn)) :=
  PS.imp ps_retN fun D σ H ⟨m, ρ, S, rel, er, h⟩ => h m H (.rt .non) Ext.refl rel .non
theorem s_pass {pos : Pos} : PS X (.Pass pos) (rS B W (ex P .pass)) := PS.imp ps_pass fun D σ H ⟨m, ρ, S, rel, er, h⟩ => h m H (.nx σ) Ext.refl rel er
theorem s_doc {x : Str} {j : Nat} {pos pos' : Pos} : PS X (.Expr (.Constant (.str x) j pos) pos') (rS B W (ex P .pass)) := PS.imp ps_doc fun D σ H ⟨m, ρ, S, rel, er, h⟩ => h m H (.nx σ) Ext.refl rel er
theorem s_brk {pos : Pos} : PS X (.Break pos) (rS B W (ex P .brk)) := PS.imp ps_break fun D σ H ⟨m, ρ, S, rel, er, h⟩ => h m H (.bk σ) Ext.refl rel er
theorem s_cnt {pos : Pos} : PS X (.Continue pos) (rS B W (ex P .cnt)) := PS.imp ps_continue fun D σ H ⟨m, ρ, S, rel, er, h⟩ => h m H (.ct σ) Ext.refl rel er
theorem s_if {c : Expr} {a b : List Stmt} {t : E} {x y : Ss} {pos : Pos} (hc : PT X c (tB (rE B P W t))) (ha : PSs X a (rS B W (exs P x))) (hb : PSs X b (rS B W (exs P y))) : PS X (.If c a b pos) (rS B W (ex P (.ife t x y))) :=
  PS.imp (ps_if hc ha hb) fun D σ H ⟨m, ρ, S, rel, er, h⟩ => step (ev P t) rel er h fun w m1 H1 S1 d e1 rel1 er1 r1 h1 => by
    split at h1
    · cases r1
      exact ⟨true, rfl, by dsimp only; rw [if_pos rfl]; exact ⟨m1, ρ, S1, rel1, er1, h1⟩⟩
    · cases r1
      exact ⟨false, rfl, by dsimp only; rw [if_neg Bool.false_ne_true]; exact ⟨m1, ρ, S1, rel1, er1, h1⟩⟩
    · exact h1.elim
theorem ss_nil : PSs X [] (rS B W (exs P .nil)) := PSs.imp pss_nil fun D σ H ⟨m, ρ, S, rel, er, h⟩ => h m H (.nx σ) Ext.refl rel er
theorem ss_cons {st : Stmt} {rest : List Stmt} {x : Stm} {y : Ss} (h1 : PS X st (rS B W (ex P x))) (h2 : PSs X rest (rS B W (exs P y))) : PSs X (st :: rest) (rS B W (exs P (.cons x y))) :=
  PSs.imp (pss_cons h1 h2) fun D σ H ⟨m, ρ, S, rel, er, h⟩ => by
    refine ⟨m, ρ, S, rel, er, ?_⟩
    have h' : PostE B (RFl B) ((ex P x ρ S).bind fun fl S1 => (match fl with
      | .nx ρ1 => exs P y ρ1 S1
      | fl => .ok fl S1)) m H (endQ D) W := h
    refine (PostE.bind (R := RFl B) h').mono (fun b H1 ⟨m1, S1, a, e1, rel1, r1, hp⟩ => ?_) fun _ _ _ h => h
    cases b with
    | nx σ' =>
      cases a with
      | nx ρ1 => exact ⟨m1, ρ1, S1, rel1, r1, hp⟩
      | _ => exact r1.elim
    | rt v =>
      cases a with
      | rt d => exact hp m1 H1 (.rt v) Ext.refl rel1 r1
      | _ => exact r1.elim
    | bk σ' =>
      cases a with
      | bk ρ1 => exact hp m1 H1 (.bk σ') Ext.refl rel1 r1
      | _ => exact r1.elim
    | ct σ' =>
      cases a with
      | ct ρ1 => exact hp m1 H1 (.ct σ') Ext.refl rel1 r1
      | _ => exact r1.elim
theorem s_raise (ok : Oks X B C P W) {x : Str} {es : List Expr} {xs : Es} {p q pos : Pos} (ht : C.tk = true) (hc : C.calm = true) (hk : clsAr C x = some es.length) (hg : isGl C x = true) (hn : noStar es = true) (h0 : es = [] → xs = .nil) (hl : esN xs = some es.length) (hs : PA X es (rEs B P W xs)) :
    PS X (.Raise (some (.Call (.Name x p) es [] q)) none pos) (rS B W (ex P (.raise x xs))) :=
  PS.imp (ps_raise (ok.cm hc) ok.tk (ok.exc ht x es xs p q hk hg hn h0 hl hs)) fun D σ H ⟨m, ρ, S, rel, er, h⟩ => step (evs P xs) rel er h fun vs m1 H1 S1 ds e1 rel1 er1 r1 h1 => by
    split at h1
    · rename_i e he
      exact ⟨m1, S1, ds, e, rel1, r1, he, h1⟩
    · exact h1.elim
theorem s_aug (ok : Okb X B C P W) {x : Str} {i : Nat} {op : Operator} {e : Expr} {v : E} {px pos : Pos} (hi : storOf C x = some i) (hop : okAug op = true) (he : PE X e (rE B P W v)) : PS X (.AugAssign (.Name x px) op e pos) (rS B W (ex P (.aug i op v))) := by
  obtain ⟨h1, h2, h3⟩ := stor_ok ok hi
  have hN : X.N.Nodup := by rw [ok.N]; exact ok.nd
  cases op with
  | Add =>
    refine PS.imp (ps_aug hN h1 h2 he ip_add h3) fun D σ H ⟨m, ρ, S, rel, er, h⟩ => ?_
    have h : PostE B (RFl B) (match getV ρ i with
      | some x => (ev P v ρ S).bind fun y S1 => (match Operator.Add, x, y with
      | .Add, .int a, .int b => .ok (.nx (ρ.set i (some (.int (a + b))))) S1
      | .Sub, .int a, .int b => .ok (.nx (ρ.set i (some (.int (a - b))))) S1
      | _, _, _ => .no)
      | none => .no) m H (endQ D) W := h
    split at h
    · rename_i d hd
      obtain ⟨w, hw, rw'⟩ := er.get hd
      refine ⟨w, hw, step (ev P v) rel er h fun y m1 H1 S1 dy e1 rel1 er1 r1 h1 => ?_⟩
      split at h1
      · cases rw'
        cases r1
        exact ⟨_, _, rfl, rfl, h1 m1 H1 (.nx _) Ext.refl rel1 (er1.set i (.int _))⟩
      · cases ‹Operator.Add = Operator.Sub›
      · exact h1.elim
    · exact h.elim
  | Sub =>
    refine PS.imp (ps_aug hN h1 h2 he ip_sub h3) fun D σ H ⟨m, ρ, S, rel, er, h⟩ => ?_
    have h : PostE B (RFl B) (match getV ρ i with
      | some x => (ev P v ρ S).bind fun y S1 => (match Operator.Sub, x, y with
      | .Add, .int a, .int b => .ok (.nx (ρ.set i (some (.int (a + b))))) S1
      | .Sub, .int a, .int b => .ok (.nx (ρ.set i (some (.int (a - b))))) S1
      | _, _, _ => .no)
      | none => .no) m H (endQ D) W := h
    split at h
    · rename_i d hd
      obtain ⟨w, hw, rw'⟩ := er.get hd
      refine ⟨w, hw, step (ev P v) rel er h fun y m1 H1 S1 dy e1 rel1 er1 r1 h1 => ?_⟩
      split at h1
      · cases ‹Operator.Sub = Operator.Add›
      · cases rw'
        cases r1
        exact ⟨_, _, rfl, rfl, h1 m1 H1 (.nx _) Ext.refl rel1 (er1.set i (.int _))⟩
      · exact h1.elim
    · exact h.elim
  | _ => cases hop
theorem s_tupas (ok : Okb X B C P W) {ts : List Expr} {k : Nat} {pt pos : Pos} {g : Tg} {e : Expr} {v : E} (hg : cT C (.Tuple ts k pt) = some g) (ht : ¬ isTup e = true) (hc : ¬ isComp e = true) (he : PE X e (rE B P W v)) : PS X (.Assign [.Tuple ts k pt] e pos) (rS B W (ex P (.asg g v))) :=
  PS.imp (ps_asg he (s_tg ok hg) (show swapsWith e (some (.Tuple ts k pt)) pos.line X.env = pure false from noSw hc) (noSt ht) rfl) fun D σ H ⟨m, ρ, S, rel, er, h⟩ => step (ev P v) rel er h fun w m1 H1 S1 d e1 rel1 er1 r1 h1 => by
    unfold nxO at h1
    split at h1
    · rename_i ρ' hs
      exact ⟨m1, ρ, S1, d, ρ', rel1, er1, r1, hs, fun σ' er' _ => h1 m1 H1 (.nx σ') Ext.refl rel1 er'⟩
    · exact h1.elim
end
end Pi

set_option Elab.async false
set_option linter.all false
set_option maxHeartbeats 4000000
namespace Pi
open PySem L2 PyProof.Rows
section
variable {X : Cx} {B : Bd} {C : Cs} {P : Par} {W : WXH}
/-! ### names = [..] -/
theorem s_asgLc {f : Nat} (ih : Snd B f) (ok : Okc X B C P W) {x : Str} {px pos cpos : Pos} {ix : Nat} {elt tg it : Expr} {ifs : List Expr} {scope : Scope} {i : Ic} {g : Tg} {t e : E} (hi : storOf C x = some ix) (hl : C.sc.names.lookup x = some .local) (hline : (px.line == cpos.line) = true)
    (hany : (scope.names.any fun (n, k) => n == x && (k == .local || k == .cell)) = false) (hk : C.sc.kind = .function) (hc : C.calm = true) (hb : blkC C.N C.sc scope (ownOf C.N scope.names) = true) (hs : isSet it = false)
    (h1 : cI f C tg it = some i) (h2 : cT (blkCs C scope) tg = some g) (h3 : cIfs f (blkCs C scope) ifs = some t) (h4 : cE f (blkCs C scope) elt = some e) (h5 : ((tgSlots g).all fun j => decide (j ∈ (ownOf C.N scope.names).map (·.2))) = true) :
    PS X (.Assign [.Name x px] (.ListComp elt [⟨tg, it, ifs, 0⟩] scope cpos) pos) (rS B W (ex P (.asg (.one ix) (.lc e g i t ((ownOf C.N scope.names).map (·.2)))))) := by
  have hN : X.N.Nodup := by rw [ok.N]; exact ok.nd
  obtain ⟨k1, k2, k3⟩ := stor_ok ok.toOkb hi
  have hl' : X.env.scope.names.lookup x = some .local := by rw [ok.sc]; exact hl
  refine PS.imp (ps_setLc (own := ownOf C.N scope.names) (ok.cm hc) hN k1 hl' (sw_true (by rw [ok.sc]; exact hk) hl' hline hany) (ih.i h1 ok) (blkOk_by (by rw [ok.N, ok.sc]; exact hb))
    (fun s H Ca cl fp => s_tg (ok.blk hc).toOkb h2) (fun s H Ca cl fp => ih.ifs h3 (ok.blk hc)) (fun s H Ca cl fp => (ih.e h4 (ok.blk hc)).1) (foldSet hs)) fun D σ H h => ?_
  have h' := asg_read h
  exact lc_read (fun j hj => by
    have := List.all_eq_true.mp h5 j hj
    rwa [decide_eq_true_eq] at this) h'
theorem swCell {elt : Expr} {gs : List Comprehension} {scope : Scope} {pos py : Pos} {y : Str} {l : Nat} {env : PySem.Env} (hy : env.scope.names.lookup y ≠ some .local) : swapsWith (.ListComp elt gs scope pos) (some (.Name y py)) l env = pure false := by
  have ky : (env.kindOf y == some .local) = false := beq_eq_false_iff_ne.mpr hy
  unfold swapsWith
  simp only [ky, Bool.and_false, Bool.false_and]
/-! ### a, b = x, y -/
theorem sw2 {x y : Str} {px py pt pt2 : Pos} {kt k2 : Nat} {a b : Expr} {env : PySem.Env} (hk : env.scope.kind = .function) (hx : env.scope.names.lookup x = some .local) (hy : env.scope.names.lookup y = some .local) (hxy : x ≠ y) (hl : (px.line == py.line) = true) (hn : noStar [a, b] = true) (h1 : ([a, b].all (foldedForSure 8)) = false) (h2 : ([a, b].all (constantsAlone 8)) = false) :
    swappedStores [.Tuple [.Name x px, .Name y py] kt pt] (.Tuple [a, b] k2 pt2) env = pure (some [x, y]) := by
  have hb : env.blockKind = .function := by unfold Env.blockKind; rw [hk]; rfl
  have kx : env.kindOf x = some .local := hx
  have ky : env.kindOf y = some .local := hy
  have hl' : px.line = py.line := by simpa using hl
  have hxy' : (y == x) = false := beq_eq_false_iff_ne.mpr (Ne.symm hxy)
  have hxy2 : (x == y) = false := beq_eq_false_iff_ne.mpr hxy
  obtain ⟨n1, n2⟩ := noStar_cons hn
  obtain ⟨n3, _⟩ := noStar_cons n2
  unfold swappedStores
  refine (if_neg ?_).trans ((if_neg ?_).trans ?_)
  · simp [hb]
  · intro h
    simp only [List.any_cons, List.any_nil, Bool.or_false, Bool.or_eq_true] at h
    exact absurd h Bool.false_ne_true
  · refine (if_neg ?_).trans ((if_neg (by rw [h1]; exact Bool.false_ne_true)).trans ?_)
    · simp [kx, ky, Expr.pos, hl', List.eraseDups_cons, hxy', hxy2]
    · refine (if_neg (by rw [h2]; exact Bool.false_ne_true)).trans ?_
      simp [kx, ky, Expr.pos, hl']
theorem sw3 {x y z : Str} {px py pz pt pt2 : Pos} {kt k2 : Nat} {a b c : Expr} {env : PySem.Env} (hk : env.scope.kind = .function) (hx : env.scope.names.lookup x = some .local) (hy : env.scope.names.lookup y = some .local) (hz : env.scope.names.lookup z = some .local) (hxy : x ≠ y) (hxz : x ≠ z) (hyz : y ≠ z) (hl : (px.line == py.line) = true) (hl2 : (px.line == pz.line) = true) (hn : noStar [a, b, c] = true) (h1 : ([a, b, c].all (foldedForSure 8)) = false) (h2 : ([a, b, c].all (constantsAlone 8)) = false) :
    swappedStores [.Tuple [.Name x px, .Name y py, .Name z pz] kt pt] (.Tuple [a, b, c] k2 pt2) env = pure (some [x, y, z]) := by
  have hb : env.blockKind = .function := by unfold Env.blockKind; rw [hk]; rfl
  have kx : env.kindOf x = some .local := hx
  have ky : env.kindOf y = some .local := hy
  have kz : env.kindOf z = some .local := hz
  have hl' : px.line = py.line := by simpa using hl
  have hl2' : pz.line = py.line := by rw [← hl']; have : px.line = pz.line := by simpa using hl2
                                      exact this.symm
  have q1 : (y == x) = false := beq_eq_false_iff_ne.mpr (Ne.symm hxy)
  have q2 : (x == y) = false := beq_eq_false_iff_ne.mpr hxy
  have q3 : (z == x) = false := beq_eq_false_iff_ne.mpr (Ne.symm hxz)
  have q4 : (x == z) = false := beq_eq_false_iff_ne.mpr hxz
  have q5 : (z == y) = false := beq_eq_false_iff_ne.mpr (Ne.symm hyz)
  have q6 : (y == z) = false := beq_eq_false_iff_ne.mpr hyz
  obtain ⟨n1, n2⟩ := noStar_cons hn
  obtain ⟨n3, n4⟩ := noStar_cons n2
  obtain ⟨n5, _⟩ := noStar_cons n4
  unfold swappedStores
  refine (if_neg ?_).trans ((if_neg ?_).trans ?_)
  · simp [hb]
  · intro h
    simp only [List.any_cons, List.any_nil, Bool.or_false, Bool.or_eq_true] at h
    exact absurd h Bool.false_ne_true
  · refine (if_neg ?_).trans ((if_neg (by rw [h1]; exact Bool.false_ne_true)).trans ?_)
    · simp [kx, ky, kz, Expr.pos, hl', hl2', List.eraseDups_cons, q1, q2, q3, q4, q5, q6]
    · refine (if_neg (by rw [h2]; exact Bool.false_ne_true)).trans ?_
      simp [kx, ky, kz, Expr.pos, hl', hl2']
theorem ixOf_inj {x y : Str} {N : List Str} {i : Nat} (h1 : ixOf x N = some i) (h2 : ixOf y N = some i) : x = y := by
  have a := ixOf_get h1
  have b := ixOf_get h2
  rw [a] at b
  exact Option.some.inj b
theorem s_par2 (ok : Okb X B C P W) {x y : Str} {px py pt pt2 pos : Pos} {kt k2 : Nat} {a b : Expr} {i j : Nat} {es : Es} (hc : C.calm = true) (hk : C.sc.kind = .function) (hx : C.sc.names.lookup x = some .local) (hy : C.sc.names.lookup y = some .local) (hxy : x ≠ y) (hl : (px.line == py.line) = true) (hn : noStar [a, b] = true) (h1 : ([a, b].all (foldedForSure 8)) = false) (h2 : ([a, b].all (constantsAlone 8)) = false)
    (hi : ixOf x C.N = some i) (hj : ixOf y C.N = some j) (hs : PA X [a, b] (rEs B P W es)) (hl2 : esN es = some 2) : PS X (.Assign [.Tuple [.Name x px, .Name y py] kt pt] (.Tuple [a, b] k2 pt2) pos) (rS B W (ex P (.par [i, j] es))) := by
  have hx' : X.env.scope.names.lookup x = some .local := by rw [ok.sc]; exact hx
  have hy' : X.env.scope.names.lookup y = some .local := by rw [ok.sc]; exact hy
  refine PS.imp (ps_par (ok.cm hc) (by rw [ok.N]; exact ok.nd) (by rw [ok.N]; exact ixOf_get hi) (by rw [ok.N]; exact ixOf_get hj) (fun e => by subst e; exact hxy (ixOf_inj hi hj)) hx' hy' hs (sw2 (by rw [ok.sc]; exact hk) hx' hy' hxy hl hn h1 h2) rfl) fun D σ H ⟨m, ρ, S, rel, er, h⟩ => ?_
  have q : rEs B P W es σ H fun vs H1 => (∃ v w, vs = [v, w] ∧ D.nx ((σ.set i (some v)).set j (some w)) H1) ∨ vs.length ≠ 2 := step (evs P es) rel er h fun vs m1 H1 S1 ds e1 rel1 er1 r1 h1 => by
    by_cases hd : ds.length = 2
    · match ds, hd with
      | [d, e], _ =>
        obtain ⟨v, w, rfl, rv, rw'⟩ := r1.two
        exact .inl ⟨v, w, rfl, h1 m1 H1 (.nx _) Ext.refl rel1 ((er1.set i rv).set j rw')⟩
    · exact .inr (by rw [r1.length]; exact hd)
  refine rEs_mono (rEs_len hl2 q) fun vs H1 ⟨g1, g2⟩ => ?_
  rcases g2 with g2 | g2
  · exact g2
  · exact absurd g1 g2
theorem s_par3 (ok : Okb X B C P W) {x y z : Str} {px py pz pt pt2 pos : Pos} {kt k2 : Nat} {a b c : Expr} {i j l : Nat} {es : Es} (hc : C.calm = true) (hk : C.sc.kind = .function) (hx : C.sc.names.lookup x = some .local) (hy : C.sc.names.lookup y = some .local) (hz : C.sc.names.lookup z = some .local) (hxy : x ≠ y) (hxz : x ≠ z) (hyz : y ≠ z) (hl : (px.line == py.line) = true) (hlz : (px.line == pz.line) = true) (hn : noStar [a, b, c] = true) (h1 : ([a, b, c].all (foldedForSure 8)) = false) (h2 : ([a, b, c].all (constantsAlone 8)) = false)
    (hi : ixOf x C.N = some i) (hj : ixOf y C.N = some j) (hk3 : ixOf z C.N = some l) (hs : PA X [a, b, c] (rEs B P W es)) (hl2 : esN es = some 3) : PS X (.Assign [.Tuple [.Name x px, .Name y py, .Name z pz] kt pt] (.Tuple [a, b, c] k2 pt2) pos) (rS B W (ex P (.par [i, j, l] es))) := by
  have hx' : X.env.scope.names.lookup x = some .local := by rw [ok.sc]; exact hx
  have hy' : X.env.scope.names.lookup y = some .local := by rw [ok.sc]; exact hy
  have hz' : X.env.scope.names.lookup z = some .local := by rw [ok.sc]; exact hz
  refine PS.imp (ps_par3 (ok.cm hc) (by rw [ok.N]; exact ok.nd) (by rw [ok.N]; exact ixOf_get hi) (by rw [ok.N]; exact ixOf_get hj) (by rw [ok.N]; exact ixOf_get hk3) (fun e => by subst e; exact hxy (ixOf_inj hi hj)) (fun e => by subst e; exact hxz (ixOf_inj hi hk3)) (fun e => by subst e; exact hyz (ixOf_inj hj hk3)) hx' hy' hz' hs (sw3 (by rw [ok.sc]; exact hk) hx' hy' hz' hxy hxz hyz hl hlz hn h1 h2) rfl) fun D σ H ⟨m, ρ, S, rel, er, h⟩ => ?_
  have q : rEs B P W es σ H fun vs H1 => (∃ v w u, vs = [v, w, u] ∧ D.nx (((σ.set i (some v)).set j (some w)).set l (some u)) H1) ∨ vs.length ≠ 3 := step (evs P es) rel er h fun vs m1 H1 S1 ds e1 rel1 er1 r1 h1 => by
    by_cases hd : ds.length = 3
    · match ds, hd with
      | [d, e, f], _ =>
        cases r1 with
        | cons rv r2 =>
          obtain ⟨w, u, rfl, rw', ru⟩ := r2.two
          exact .inl ⟨_, w, u, rfl, h1 m1 H1 (.nx _) Ext.refl rel1 (((er1.set i rv).set j rw').set l ru)⟩
    · exact .inr (by rw [r1.length]; exact hd)
  refine rEs_mono (rEs_len hl2 q) fun vs H1 ⟨g1, g2⟩ => ?_
  rcases g2 with g2 | g2
  · exact g2
  · exact absurd g1 g2
/-! ### o[i] op= e -/
def rGet (B : Bd) (W : WXH) : V → V → Hp → VK → Prop := rIB B W
theorem s_while (ok : Oks X B C P W) {c : Expr} {b : List Stmt} {t : E} {y : Ss} {pos : Pos} (ht : C.tk = true) (hc : PT X c (tB (rE B P W t))) (hb : PSs X b (rS B W (exs P y))) : PS X (.While c b [] pos) (rS B W (ex P (.whil t y))) := by
  refine PS.imp (ps_while (ok.pass ht) hc hb) fun D σ H ⟨m0, ρ0, S0, rel0, er0, h0⟩ => ?_
  refine ⟨fun k σ H => ∃ m ρ S, Rel B m H S ∧ EnvR B m H σ ρ ∧ PostE B (RFl B) (whileLoop (fun ρ S => ev P t ρ S) (fun ρ S => exs P y ρ S) k ρ S) m H (endQ D) W, ⟨P.fuel, m0, ρ0, S0, rel0, er0, h0⟩, ?_⟩
  rintro k σ H ⟨m, ρ, S, rel, er, h⟩
  cases k with
  | zero => exact h.elim
  | succ k =>
    have h : PostE B (RFl B) ((ev P t ρ S).bind fun b S0 => (match b with
    | .bl false => .ok (.nx ρ) S0
    | .bl true => (exs P y ρ S0).bind fun fl S1 => (match fl with
      | .nx ρ2 => whileLoop (fun ρ S => ev P t ρ S) (fun ρ S => exs P y ρ S) k ρ2 S1
      | .ct ρ2 => whileLoop (fun ρ S => ev P t ρ S) (fun ρ S => exs P y ρ S) k ρ2 S1
      | .bk ρ2 => .ok (.nx ρ2) S1
      | .rt d => .ok (.rt d) S1)
    | _ => .no)) m H (endQ D) W := h
    refine step (ev P t) rel er h fun w m1 H1 S1 d e1 rel1 er1 r1 h1 => ?_
    split at h1
    · cases r1
      refine ⟨false, rfl, ?_⟩
      dsimp only
      rw [if_neg Bool.false_ne_true]
      exact h1 m1 H1 (.nx _) Ext.refl rel1 er1
    · cases r1
      refine ⟨true, rfl, ?_⟩
      dsimp only
      rw [if_pos rfl]
      refine ⟨fun σ' H' => ∃ m ρ S, Rel B m H' S ∧ EnvR B m H' σ' ρ ∧ PostE B (RFl B) (whileLoop (fun ρ S => ev P t ρ S) (fun ρ S => exs P y ρ S) k ρ S) m H' (endQ D) W, fun σ' H' q => ⟨k, Nat.lt_succ_self k, q⟩, ?_⟩
      refine ⟨m1, ρ, S1, rel1, er1, ?_⟩
      refine (PostE.bind (R := RFl B) h1).mono (fun b H2 ⟨m2, S2, a, e2, rel2, r2, hp⟩ => ?_) fun _ _ _ h => h
      cases b with
      | nx σ' =>
        cases a with
        | nx ρ1 => exact ⟨m2, ρ1, S2, rel2, r2, hp⟩
        | _ => exact r2.elim
      | rt v =>
        cases a with
        | rt d => exact hp m2 H2 (.rt v) Ext.refl rel2 r2
        | _ => exact r2.elim
      | bk σ' =>
        cases a with
        | bk ρ1 => exact hp m2 H2 (.nx σ') Ext.refl rel2 r2
        | _ => exact r2.elim
      | ct σ' =>
        cases a with
        | ct ρ1 => exact ⟨m2, ρ1, S2, rel2, r2, hp⟩
        | _ => exact r2.elim
    · exact h1.elim
theorem s_for (ok : Oks X B C P W) {tg it : Expr} {b : List Stmt} {g : Tg} {i : Ic} {y : Ss} {pos : Pos} (ht : C.tk = true) (hc : C.calm = true) (hs : isSet it = false) (hg : cT C tg = some g) (hi : PI X tg it (rI B P W i)) (hb : PSs X b (rS B W (exs P y))) : PS X (.For tg it b [] pos) (rS B W (ex P (.for_ g i y))) := by
  refine PS.imp (ps_for (ok.pass ht) (ok.cm hc) hi (s_tg ok.toOkb hg) hb (foldSet hs)) fun D σ0 H0 ⟨m0, ρ0, S0, rel0, er0, h0⟩ => ?_
  refine step (evi P i) rel0 er0 h0 fun J m1 H1 S1 src e1 rel1 er1 r1 h1 => ?_
  refine ⟨fun j k σ H => ∃ m ρ S, Ext m1 H1 m H ∧ Rel B m H S ∧ EnvR B m H σ ρ ∧ PostE B (RFl B) (forLoop src g (fun ρ S => exs P y ρ S) k j ρ S) m H (endQ D) W, ⟨P.fuel, m1, ρ0, S1, Ext.refl, rel1, er1, h1⟩, ?_⟩
  rintro j k σ H ⟨m, ρ, S, e, rel, er, h⟩
  cases k with
  | zero => exact h.elim
  | succ k =>
    have hsrc := r1 j m H S e rel
    have h : PostE B (RFl B) (match item S src j with
    | none => .no
    | some none => .ok (.nx ρ) S
    | some (some d) => (match setT ρ g d with
      | none => .no
      | some ρ1 => (exs P y ρ1 S).bind fun fl S1 => (match fl with
        | .nx ρ2 => forLoop src g (fun ρ S => exs P y ρ S) k (j + 1) ρ2 S1
        | .ct ρ2 => forLoop src g (fun ρ S => exs P y ρ S) k (j + 1) ρ2 S1
        | .bk ρ2 => .ok (.nx ρ2) S1
        | .rt d => .ok (.rt d) S1))) m H (endQ D) W := h
    cases hit : item S src j with
    | none =>
      rw [hit] at h
      exact h.elim
    | some o =>
      rw [hit] at h hsrc
      cases o with
      | none => exact .inl ⟨hsrc, h m H (.nx _) Ext.refl rel er⟩
      | some d =>
        obtain ⟨hgo, hy⟩ := hsrc
        refine .inr ⟨hgo, fun σ' H' => ∃ m ρ S, Ext m1 H1 m H' ∧ Rel B m H' S ∧ EnvR B m H' σ' ρ ∧ PostE B (RFl B) (forLoop src g (fun ρ S => exs P y ρ S) k (j + 1) ρ S) m H' (endQ D) W, fun σ' H' q => ⟨k, Nat.lt_succ_self k, q⟩, fun x H' hyd => ?_⟩
        obtain ⟨e2, rel2, rx⟩ := hy x H' hyd
        have h := h.ext e2
        dsimp only at h
        split at h
        · exact h.elim
        · rename_i ρ1 hs
          refine ⟨m, ρ, S, d, ρ1, rel2, er.ext rel e2, rx, hs, fun σ' er' _ => ?_⟩
          refine ⟨m, ρ1, S, rel2, er', ?_⟩
          refine (PostE.bind (R := RFl B) h).mono (fun b H3 ⟨m3, S3, a, e3, rel3, r3, hp⟩ => ?_) fun _ _ _ h => h
          have e13 := (e.trans e2).trans e3
          cases b with
          | nx σ' =>
            cases a with
            | nx ρ1 => exact ⟨m3, ρ1, S3, e13, rel3, r3, hp⟩
            | _ => exact r3.elim
          | rt v =>
            cases a with
            | rt d => exact hp m3 H3 (.rt v) Ext.refl rel3 r3
            | _ => exact r3.elim
          | bk σ' =>
            cases a with
            | bk ρ1 => exact hp m3 H3 (.nx σ') Ext.refl rel3 r3
            | _ => exact r3.elim
          | ct σ' =>
            cases a with
            | ct ρ1 => exact ⟨m3, ρ1, S3, e13, rel3, r3, hp⟩
            | _ => exact r3.elim
end
end Pi

set_option Elab.async false
set_option linter.all false
set_option maxHeartbeats 8000000
namespace Pi
open PySem L2 PyProof.Rows
structure SndS (B : Bd) (f : Nat) : Prop where
  s : ∀ {C st x}, cS f C st = some x → ∀ {X P W}, Oks X B C P W → PS X st (rS B W (ex P x))
  ss : ∀ {C sts x}, cSs f C sts = some x → ∀ {X P W}, Oks X B C P W → PSs X sts (rS B W (exs P x))
theorem snd_ss {B : Bd} {f : Nat} (ih : SndS B f) {C : Cs} {sts : List Stmt} {x : Ss} (h : cSs (f + 1) C sts = some x) {X : Cx} {P : Par} {W : WXH} (ok : Oks X B C P W) : PSs X sts (rS B W (exs P x)) := by
  unfold cSs at h
  split at h
  · cases h
  · cases ‹f + 1 = Nat.succ _›
    cases h; exact ss_nil
  · cases ‹f + 1 = Nat.succ _›
    split at h
    · rename_i h1 h2
      cases h
      exact ss_cons (ih.s h1 ok) (ih.ss h2 ok)
    · cases h
theorem esN_three {f : Nat} {C : Cs} {a b c : Expr} {xs : Es} (hn : noStar [a, b, c] = true) (h : cEs f C [a, b, c] = some xs) : esN xs = some 3 := by
  obtain ⟨f', x, ys, _, h2, rfl⟩ := cEs_cons hn h
  show (esN ys).map _ = _
  rw [esN_two (noStar_cons hn).2 h2]
  rfl
theorem cE_lc {f : Nat} {C : Cs} {elt tg it : Expr} {ifs : List Expr} {scope : Scope} {pos : Pos} {v : E} (h : cE f C (.ListComp elt [⟨tg, it, ifs, 0⟩] scope pos) = some v) :
    ∃ f' i g t e, f = f' + 1 ∧ C.calm = true ∧ blkC C.N C.sc scope (ownOf C.N scope.names) = true ∧ isSet it = false ∧ cI f' C tg it = some i ∧ cT (blkCs C scope) tg = some g ∧ cIfs f' (blkCs C scope) ifs = some t ∧ cE f' (blkCs C scope) elt = some e ∧
      ((tgSlots g).all fun j => decide (j ∈ (ownOf C.N scope.names).map (·.2))) = true ∧ v = .lc e g i t ((ownOf C.N scope.names).map (·.2)) := by
  cases f with
  | zero => cases h
  | succ f =>
    have h : (if (decide (C.calm = true) && blkC C.N C.sc scope (ownOf C.N scope.names) && !isSet it) = true then
      (match cI f C tg it, cT (blkCs C scope) tg, cIfs f (blkCs C scope) ifs, cE f (blkCs C scope) elt with
      | some i, some g, some t, some e => if ((tgSlots g).all fun j => decide (j ∈ (ownOf C.N scope.names).map (·.2))) = true then some (.lc e g i t ((ownOf C.N scope.names).map (·.2))) else none
      | _, _, _, _ => none) else none) = some v := h
    split at h
    · rename_i hn
      simp only [Bool.and_eq_true, decide_eq_true_eq, Bool.not_eq_true'] at hn
      split at h
      · rename_i h1 h2 h3 h4
        split at h
        · rename_i h5
          cases h
          exact ⟨f, _, _, _, _, rfl, hn.1.1, hn.1.2, hn.2, h1, h2, h3, h4, h5, rfl⟩
        · cases h
      · cases h
    · cases h
theorem snd_s {B : Bd} {f : Nat} (ih : SndS B f) {C : Cs} {st : Stmt} {x : Stm} (h : cS (f + 1) C st = some x) {X : Cx} {P : Par} {W : WXH} (ok : Oks X B C P W) : PS X st (rS B W (ex P x)) := by
  have ie := sound B f
  have okc := ok.toOkc
  have okb := okc.toOkb
  unfold cS at h
  split at h
  · cases h
  · -- x = e
    cases ‹f + 1 = Nat.succ _›
    split at h
    · rename_i i v hi hv
      split at h
      · split at h
        · split at h
          · rename_i hl
            rw [decide_eq_true_eq] at hl
            split at h
            · rename_i hb
              simp only [Bool.and_eq_true, decide_eq_true_eq, Bool.not_eq_true'] at hb
              cases h
              obtain ⟨f', i, g, t, e, rfl, c1, c2, c3, c4, c5, c6, c7, c8, rfl⟩ := cE_lc hv
              exact s_asgLc (sound B f') okc hi hl hb.1.1 hb.2 hb.1.2 c1 c2 c3 c4 c5 c6 c7 c8
            · cases h
          · rename_i hl
            cases h
            rw [decide_eq_true_eq] at hl
            exact ps_one okb hi (ie.e hv okc).1 (swCell (by rw [okb.sc]; exact hl))
        · cases h
      · rename_i hc
        cases h
        exact ps_one okb hi (ie.e hv okc).1 (noSw hc)
    · cases h
  · -- two names
    cases ‹f + 1 = Nat.succ _›
    split at h
    · rename_i hb
      simp only [Bool.and_eq_true, decide_eq_true_eq, Bool.not_eq_true'] at hb
      obtain ⟨⟨⟨⟨⟨⟨⟨⟨a1, a2⟩, a3⟩, a4⟩, a5⟩, a6⟩, a7⟩, a8⟩, a9⟩ := hb
      split at h
      · rename_i hi hj hes
        cases h
        exact s_par2 okb a1 a2 a3 a4 a5 a6 a7 a8 a9 hi hj (ie.es hes okc) (esN_two a7 hes)
      · cases h
    · cases h
  · -- three names
    cases ‹f + 1 = Nat.succ _›
    split at h
    · rename_i hb
      simp only [Bool.and_eq_true, decide_eq_true_eq, Bool.not_eq_true'] at hb
      obtain ⟨⟨⟨⟨⟨⟨⟨⟨⟨⟨⟨⟨a1, a2⟩, a3⟩, a4⟩, a5⟩, a6⟩, a7⟩, a8⟩, a9⟩, a10⟩, a11⟩, a12⟩, a13⟩ := hb
      split at h
      · rename_i hi hj hl hes
        cases h
        exact s_par3 okb a1 a2 a3 a4 a5 a6 a7 a8 a9 a10 a11 a12 a13 hi hj hl (ie.es hes okc) (esN_three a11 hes)
      · cases h
    · cases h
  · -- a tuple of targets
    cases ‹f + 1 = Nat.succ _›
    split at h
    · cases h
    · rename_i hb
      simp only [Bool.or_eq_true, not_or] at hb
      split at h
      · rename_i hg hv
        cases h
        exact s_tupas okb hg hb.1 hb.2 (ie.e hv okc).1
      · cases h
  · -- o[i] = e
    cases ‹f + 1 = Nat.succ _›
    split at h
    · cases h
    · rename_i hb
      simp only [Bool.or_eq_true, not_or] at hb
      split at h
      · rename_i ho hi he
        cases h
        exact s_setix hb.1 hb.2 (ie.e ho okc).1 (ie.e hi okc).1 (ie.e he okc).1
      · cases h
  · cases ‹f + 1 = Nat.succ _›
    split at h
    · rename_i hi hv
      split at h
      · rename_i hop
        cases h
        exact s_aug okb hi hop (ie.e hv okc).1
      · cases h
    · cases h
  · cases ‹f + 1 = Nat.succ _›
    split at h
    · rename_i hd
      cases h
      unfold isDoc at hd
      split at hd
      · exact s_doc
      · cases hd
    · split at h
      · cases h
      · rename_i hc
        obtain ⟨y, h1, rfl⟩ := Option.map_eq_some_iff.mp h
        exact s_drop hc (ie.e h1 okc).1
  · cases ‹f + 1 = Nat.succ _›
    obtain ⟨y, h1, rfl⟩ := Option.map_eq_some_iff.mp h
    exact s_ret (ie.e h1 okc).1
  · cases ‹f + 1 = Nat.succ _›
    cases h
    exact s_retn
  · cases ‹f + 1 = Nat.succ _›
    split at h
    · rename_i h1 h2 h3
      cases h
      exact s_if (ie.e h1 okc).2 (ih.ss h2 ok) (ih.ss h3 ok)
    · cases h
  · cases ‹f + 1 = Nat.succ _›
    split at h
    · rename_i hb
      simp only [Bool.and_eq_true, decide_eq_true_eq, Bool.not_eq_true'] at hb
      split at h
      · rename_i h1 h2 h3
        cases h
        exact s_for ok hb.1.2 hb.1.1 hb.2 h1 (ie.i h2 okc) (ih.ss h3 ok)
      · cases h
    · cases h
  · cases ‹f + 1 = Nat.succ _›
    split at h
    · rename_i ht
      split at h
      · rename_i h1 h2
        cases h
        exact s_while ok ht (ie.e h1 okc).2 (ih.ss h2 ok)
      · cases h
    · cases h
  · cases ‹f + 1 = Nat.succ _›
    split at h
    · rename_i hb
      simp only [Bool.and_eq_true, decide_eq_true_eq] at hb
      obtain ⟨y, h1, rfl⟩ := Option.map_eq_some_iff.mp h
      exact s_raise ok hb.2 hb.1.2 hb.1.1.1.2 hb.1.1.1.1 hb.1.1.2 (fun e => by subst e; exact cEs_nil h1) (esN_len hb.1.1.2 h1) (ie.es h1 okc)
    · cases h
  · cases h; exact s_brk
  · cases h; exact s_cnt
  · cases h; exact s_pass
  · cases h
theorem soundS (B : Bd) : ∀ f, SndS B f
  | 0 => ⟨fun h => (by cases h), fun h => (by cases h)⟩
  | f + 1 => ⟨fun h _ _ _ ok => snd_s (soundS B f) h ok, fun h _ _ _ ok => snd_ss (soundS B f) h ok⟩
end Pi

set_option Elab.async false
set_option linter.all false
set_option maxRecDepth 100000
set_option maxHeartbeats 4000000
namespace PiX
open PySem PySem.W PySem.Calls PyProof.Rows PySem.HandSPX

section
variable {prog : Program} {w : World} {A : Around} {E : Value → Shared → Prop} {h : Heap} {g : Array GenState} {d : Drawn} {t : Nat} {os : OsState}
variable {nm q : Str} {C N : Addr} {bs bm : List Value} {hdct : Bool} {sn : List Str} {sub : List Value} {ab : Bool} {col : Option Bool} {dd : Option Addr} {k0 k1 k2 k3 k5 : Option Value}
/-- ValueError.__init__, bound by super(), called -/
theorem call_bwV {u e t0 : Addr} {rest : List Value} {Q : Value → Shared → Prop}
    (hC : h.get? C = some (excClassObj nm q C N bs bm hdct sn sub ab col dd k0 k1 k2 k3 k5 "ValueError.__new__")) (he : h.get? e = some (HandSPX.excO C t0)) (hu : h.get? u = some (kxs_mw "ValueError.__init__" e)) (hrest : rest.length ≤ sizeLine)
    (hq : ∀ h' t1, (∀ b o, b ≠ e → h.get? b = some o → h'.get? b = some o) → h'.get? e = some (HandSPX.excO C t1) → Q .none ⟨h', g, d, t, os⟩) :
    wpAny (model prog w) A (call (.ref u) rest) Q E ⟨h, g, d, t, os⟩ := by
  refine wpAny_call (codeAny_of_tree ?_)
  show wpAny _ A.in1 (callAny (.ref u) ⟨rest, []⟩) _ _ _
  simp only [callAny]
  refine wpAny_bind (wpAny_load hu ?_)
  simp only [kxs_mw, show (Value.type "method-wrapper" == Value.type "method" || Value.type "method-wrapper" == Value.type "builtin_function_or_method" || Value.type "method-wrapper" == Value.type "method-wrapper") = true by decide, if_true]
  refine W.KFB.if_so (by decide) ?_
  refine wpAny_bind (ESX.check_bound F.excBase_ValueError hC he rfl ?_)
  refine wpAny_bind (wpAny_pure (wpAny_pure ?_))
  refine ⟨Code.quiet_builtin _ (by decide +kernel), codeAny_builtin F.excBase_ValueError.initEntry ?_⟩
  rw [Around.under_plainId F.excBase_ValueError.init.plain _]
  wp_walk
  refine hq _ h.objs.size (fun b o hb ho => ?_) ?_
  · rw [Heap.get?_update_other _ _ (Ne.symm hb)]
    exact Heap.get?_push_of_some _ ho
  · rw [Heap.get?_update_self _ (Heap.get?_push_of_some _ he) rfl]
    rfl
end

/-- what is written of the class C and its __init__ at f (slf, fs ..): super().__init__(fs ..), slf.f = f for each -/
structure SupC (P : Program) (K : Frag) (C f : Addr) (slf : Str) (fs : List Str) (qual : Str) (params : Arguments) (body : List Stmt) (scope : Scope) (cda cc : Addr) : Prop where
  ox : L2.OexC K C
  init : findIn K (.ref C) "__init__" = some (some (.ref f))
  tI : typeIn K (.ref f) = some (.type "function")
  fn : ∃ name kV doc pm ct an oc od osl, K.lookup f = some ⟨oc, od, .func (ksFn name qual params body scope .none kV doc pm an (.ref cda) ct cc), osl⟩
  code : codeIn K (.ref cda) qual = true
  file : ∃ oc od vs sl fl tf, K.lookup cda = some ⟨oc, od, .fields vs, sl⟩ ∧ vs[2]? = some (.str fl tf) ∧ ((P.main.file : Str) == fl) = true
  cell : ∃ oc od sl, K.lookup cc = some ⟨oc, od, .cell (some (.ref C)), sl⟩
  mroC : mroIn K C (.ref C) = some true
  sup : ks_superIn K C C "__init__" = some (some (.builtin "ValueError.__init__"))
  subV : subIn K (.ref C) (.type "ValueError") = some true
  any : nsIn K cStatics "thirdparty.any" = some none
  noat : ∀ x ∈ fs, findIn K (.ref C) x = some none
  ar : ∃ a, (params.posonlyargs ++ params.args).head? = some a ∧ a.arg = slf
  nsup : scope.names.lookup ("super" : Str) = some .globalImplicit
  ncls : scope.names.lookup ("__class__" : Str) = some .free
  nself : scope.names.lookup slf = some .local
  nfs : ∀ x ∈ fs, scope.names.lookup x = some .local
  nocell : ∀ x ∈ scope.names, x.2 ≠ .cell
  kind : scope.kind = .function
  co : scope.isCoroutine = false
  gen : scope.isGenerator = false
  plain : ∀ x ∈ slf :: fs, (x == ("__debug__" : Str)) = false
  top : (P.main.scope.names.lookup ("super" : Str)).isSome = false

section
variable {prog : Program} {w : World} {A : Around} {E : Value → Shared → Prop} {K : Frag} {C f cda cc : Addr} {slf : Str} {fs : List Str} {qual : Str} {params : Arguments} {body : List Stmt} {scope : Scope} {mg : Str → Option Value}
theorem SupC.cls (T : SupC prog K C f slf fs qual params body scope cda cc) : ∃ cd, clsIn K C = some cd ∧ PySem.HandSPX.refsVE cd.mro = true ∧ cd.hasDict = true := by
  obtain ⟨nm, q, N, bs, bm, sn, sub, ab, col, dd, k0, k1, k2, k3, k5, hC, hbm⟩ := T.ox.cls
  refine ⟨{ name := nm, bases := bs, mro := .ref C :: bm, ns := N, qualname := q, hasDict := true, slotNames := sn, subclasses := sub, abstract := ab, collection := col, hasDel := false }, ?_, hbm, rfl⟩
  unfold clsIn
  rw [hC] <;> rfl
/-- the first statement -/
theorem sup_stmt (T : SupC prog K C f slf fs qual params body scope cda cc) {h : Heap} {g : Array GenState} {d : Drawn} {t : Nat} {os : OsState} {L e t0 : Addr} {m : Str → Option Value} {p0 p1 p2 p3 p4 : Pos} {e1 : Expr} {es : List Expr} {us : List Value} {Q : Flow → Shared → Prop} {mb : Str → Option Value}
    (X : K.In h) (hg : h.Ns mainGlobals mg) (hms : mg "super" = none) (hb : h.Ns builtinsNs mb) (hbs : mb "super" = bootBuiltins "super") (hns : h.Ns L m) (hself : m slf = some (.ref e)) (he : h.get? e = some (excO C t0)) (hus : us.length ≤ sizeLine)
    (hn : starEach (e1 :: es) (ksEnv qual scope L f (.ref cda) cc) = (false, eval e1 (ksEnv qual scope L f (.ref cda) cc)) :: starEach es (ksEnv qual scope L f (.ref cda) cc)) (hpl : (backTo p3 (starEach es (ksEnv qual scope L f (.ref cda) cc))).any (·.1) = false)
    (hargs : ∀ (s' : Shared) (Q' : List Value → Shared → Prop) (E' : Value → Shared → Prop), s'.heap.Ns L m → Q' us s' → wpAny (model prog w) A (spliced (backTo p3 (starEach (e1 :: es) (ksEnv qual scope L f (.ref cda) cc)))) Q' E' s')
    {pl : Sem Bool} (hform : eval (.Call (.Attribute (.Call (.Name "super" p0) [] [] p1) "__init__" p2) (e1 :: es) [] p3) (ksEnv qual scope L f (.ref cda) cc) = (do
      let ov ← attributeBase (.Call (.Name "super" p0) [] [] p1) "__init__" (ksEnv qual scope L f (.ref cda) cc) (eval (.Call (.Name "super" p0) [] [] p1) (ksEnv qual scope L f (.ref cda) cc))
      standAt p2.atName
      let (f', first) ← holding [ov] (getMethod ov "__init__" pl)
      callWith p3 f' first (backTo p3 (starEach (e1 :: es) (ksEnv qual scope L f (.ref cda) cc))) []))
    (hq : ∀ h' t' t1, (∀ b o, b ≠ e → h.get? b = some o → h'.get? b = some o) → h'.get? e = some (excO C t1) → Q .next ⟨h', g, d, t', os⟩) :
    _root_.PySem.wpAt (model prog w) A (.func body (ksEnv qual scope L f (.ref cda) cc)) (exec (.Expr (.Call (.Attribute (.Call (.Name "super" p0) [] [] p1) "__init__" p2) (e1 :: es) [] p3) p4) (ksEnv qual scope L f (.ref cda) cc)) Q E ⟨h, g, d, t, os⟩ := by
  obtain ⟨name, kV, doc, pm, ct, an, oc, od, osl, hf⟩ := T.fn
  obtain ⟨oc2, od2, vs, sl2, fl, tf, hcode, hvs, hfile⟩ := T.file
  obtain ⟨oc3, od3, sl3, hcell⟩ := T.cell
  obtain ⟨a, har, hself'⟩ := T.ar
  obtain ⟨cd, hcd, hmro, hdict⟩ := T.cls
  obtain ⟨oD, hD1, hD2⟩ : ∃ oD, h.get? C = some oD ∧ oD.data = .cls cd := by
    unfold clsIn at hcd
    split at hcd
    · rename_i c d cd' sl ho
      cases hcd
      exact ⟨_, X _ _ ho, rfl⟩
    · cases hcd
  have hin : interactive (ksEnv qual scope L f (.ref cda) cc) = false := by simp [interactive, T.kind]
  refine ks_wpAt_Expr_any ?_ hin rfl
  refine ks_wpAt_MethodCall ?_ hform
  refine ks_wpAt_super_base (env := ksEnv qual scope L f (.ref cda) cc) T.nsup T.ncls (by decide) rfl (X _ _ hf) rfl har rfl (X _ _ hcode) rfl hvs hfile T.top ?_
  refine ks_loadName_global T.kind T.nsup (loadGlobal_builtin (env := ksEnv qual scope L f (.ref cda) cc) hg hms hb (hbs.trans (by rfl)) ⟨rfl, ?_⟩)
  refine wpAny_loadName_free T.kind T.ncls rfl ⟨_, X _ _ hcell, rfl⟩ ?_
  refine wpAny_loadName_local T.kind (by rw [hself']; exact T.nself) hns (by rw [hself']; exact hself) ?_
  refine ks_wpAny_isType_cls hD1 hD2 ⟨rfl, ?_⟩
  refine ks_wpAny_call_super hD1 hD2 he rfl (fun c z => by cases z) (looks_mroIn X T.mroC) (fun h' e' k => ?_)
  have X' : K.In h' := X.keeps k
  have I' : InstAt h' e (excO C t0) C none := ⟨k _ _ he, rfl, rfl, trivial⟩
  have hsup := T.sup
  unfold ks_superIn at hsup
  rw [hcd] at hsup
  refine kxs_getMethod kxs_ValueError e' (looks_opaque X' T.any) (l₀ := cd.mro) (fun A Q E s k q => wpAny_bind ((looks_clsIn X' hcd) A _ E s k (wpAny_pure q))) rfl X' hsup (I'.type.andThen (looks_subIn X' T.subV)) (ks_ne X' I' hcd) (by decide) ?_
  have k2 : ∀ b o, h.get? b = some o → (h'.push (kxs_mw "ValueError.__init__" e)).get? b = some o := fun b o z => Heap.get?_push_of_some _ (k b o z)
  obtain ⟨oL, es', ep, hL, hr⟩ := id hns
  have hns2 : (h'.push (kxs_mw "ValueError.__init__" e)).Ns L m := ⟨oL, es', ep, k2 _ _ hL, hr⟩
  have hu : (h'.push (kxs_mw "ValueError.__init__" e)).get? h'.objs.size = some (kxs_mw "ValueError.__init__" e) := Heap.get?_push_at rfl rfl
  have hA := hargs ⟨h'.push (kxs_mw "ValueError.__init__" e), g, d, t + 1, os⟩ (fun vs s1 => KxsAt "ValueError.__init__" h'.objs.size e s1.heap ∧ wpAny (model prog w) A (call (.ref h'.objs.size) vs) (fun _ => Q .next) E s1) E hns2 ⟨hu, ?_⟩
  · rw [hn] at hA ⊢
    refine kxs_callWith (i := "ValueError.__init__") (x := e) (by show (false || (backTo p3 (starEach es (ksEnv qual scope L f (.ref cda) cc))).any (·.1)) = false; rw [hpl]; rfl) ?_
    exact evalArgs_plain hA
  · obtain ⟨nm, q, N, bs, bm, sn, sub, ab, col, dd, k0, k1, k2', k3, k5, hC, hbm⟩ := T.ox.cls
    exact call_bwV (k2 _ _ (X _ _ hC)) (k2 _ _ he) hu hus fun h2 t1 kk hx => hq h2 _ t1 (fun b o hb z => kk b o hb (k2 b o z)) hx

theorem form_of {o : Expr} {name : Str} {apos pos : Pos} {es : List Expr} {env : PySem.Env} (hline : (apos.endLine == pos.line) = true) (hf : methodCallForm (es.length + 0) (backTo pos (starEach es env)) [] = true) :
    eval (.Call (.Attribute o name apos) es [] pos) env = (do
      let ov ← attributeBase o name env (eval o env)
      standAt apos.atName
      let (f', first) ← holding [ov] (getMethod ov name (do return (← importBound o env).getD true))
      callWith pos f' first (backTo pos (starEach es env)) []) := by
  rw [arm_eval_Call]
  have hp : methodCallPos true o env apos pos = pure pos := by unfold methodCallPos; simp [hline]
  have hm : ∀ ov, methodCall o name apos pos env ov (es.length + 0) (backTo pos (starEach es env)) [] = (do
      let (f', first) ← holding [ov] (getMethod ov name (do return (← importBound o env).getD true))
      callWith pos f' first (backTo pos (starEach es env)) []) := fun ov => by
    unfold methodCall
    rw [hf, hp]
    rfl
  show (do
    let ov ← attributeBase o name env (eval o env)
    standAt apos.atName
    methodCall o name apos pos env ov (es.length + 0) (backTo pos (starEach es env)) []) = _
  simp only [hm]
theorem ldN {env : PySem.Env} {s : Shared} {m : Str → Option Value} {x : Str} {p : Pos} {u : Value} {Q : Value → Shared → Prop} {M : Model} {A : Around} {E : Value → Shared → Prop} (hk : env.scope.kind = .function) (hl : env.scope.names.lookup x = some .local) (hns : s.heap.Ns env.locals m) (hv : m x = some u) (hd : (x == ("__debug__" : Str)) = false) (h : Q u s) :
    wpAny M A (eval (.Name x p) env) Q E s := wpAny_Name (wpAny_loadName_local hk hl hns hv h) hd
/-- __init__(self, x): super().__init__(x); self.x = x -/
theorem init_run1 {x : Str} {p0 p1 p2 p3 p4 pa q1 q2 q3 q4 : Pos} (T : SupC prog K C f slf [x] qual params [.Expr (.Call (.Attribute (.Call (.Name "super" p0) [] [] p1) "__init__" p2) [.Name x pa] [] p3) p4, .Assign [.Attribute (.Name slf q1) x q2] (.Name x q3) q4] scope cda cc) (hne : slf ≠ x) (hline : (p2.endLine == p3.line) = true)
    {h : Heap} {g : Array GenState} {d : Drawn} {t : Nat} {os : OsState} {e t0 : Addr} {u : Value} {mb : Str → Option Value} {R : Result → Shared → Prop}
    (X : K.In h) (hg : h.Ns mainGlobals mg) (hms : mg "super" = none) (hb : h.Ns builtinsNs mb) (hbs : mb "super" = bootBuiltins "super") (lim : h.NoLimit) (room : A.depth < recursionLimit) (he : h.get? e = some (excO C t0)) (heK : K.lookup e = none)
    (hbind : ∀ fd, K.lookup f = some fd → ∀ F, fd.data = .func F → BindsTo ⟨h, g, d, t, os⟩ F ⟨[.ref e, u], []⟩ [(slf, .ref e), (x, u)])
    (hq : ∀ h' t' t1 dx, (∀ b o, b ≠ e → h.get? b = some o → h'.get? b = some o) → h.objs.size ≤ dx → dx ≠ e → h'.get? e = some { cls := .ref C, dict := some dx, data := .fields #[.ref t1, .none, .none, .none, .bool false, .none] } → h'.Ns1 dx (fun y => if y = x then some u else none) → R (.ok (.ret .none)) ⟨h', g, d, t', os⟩) :
    codeAny (model prog w) A (.call (.ref f) ⟨[.ref e, u], []⟩) R ⟨h, g, d, t, os⟩ := by
  obtain ⟨name, kV, doc, pm, ct, an, oc, od, osl, hf⟩ := T.fn
  obtain ⟨cd, hcd, hmro, hdict⟩ := T.cls
  refine ks_codeAny_call_defAt (binds := [(slf, .ref e), (x, u)]) room (X _ _ hf) rfl lim (codeRec_of X T.code) rfl (hbind _ hf _ rfl) T.nocell (fun y hy => ?_) (fun h₁ hns hk => ?_) T.co T.gen T.kind
  · rcases List.mem_cons.mp hy with rfl | hy
    · exact T.nself
    · rw [List.mem_singleton.mp hy]
      exact T.nfs x (by simp)
  have X1 : K.In h₁ := X.keeps hk
  have m1 : (fun y => ([(slf, Value.ref e), (x, u)] : List (Str × Value)).reverse.lookup y) slf = some (.ref e) := by
    show ([(x, u), (slf, Value.ref e)] : List (Str × Value)).lookup slf = _
    have : (slf == x) = false := beq_eq_false_iff_ne.mpr hne
    simp [List.lookup, this]
  have m2 : (fun y => ([(slf, Value.ref e), (x, u)] : List (Str × Value)).reverse.lookup y) x = some u := by
    show ([(x, u), (slf, Value.ref e)] : List (Str × Value)).lookup x = _
    simp [List.lookup]
  have hle : h.objs.size ≠ e := Nat.ne_of_gt (Heap.lt_size he)
  have px := T.plain x (by simp)
  have ps := T.plain slf (by simp)
  have lx := T.nfs x (by simp)
  refine ks_wpAt_execs_cons ?_
  refine sup_stmt (us := [u]) (pl := _) T X1 (hg.keeps hk) hms (hb.keeps hk) hbs hns m1 (hk _ _ he) (by show 1 ≤ sizeLine; rw [sizeLine_eq]; omega) rfl rfl (fun s' Q' E' hs' hQ => ?_) (form_of hline rfl) fun h2 t2 t1 k2 hx2 => ?_
  · exact spliced_cons (ldN T.kind lx hs' m2 px (spliced_nil hQ))
  have kk : ∀ b o, b ≠ e → h.get? b = some o → h2.get? b = some o := fun b o hb z => k2 b o hb (hk b o z)
  obtain ⟨oL, es', ep, hL, hr⟩ := id hns
  have hns2 : h2.Ns h.objs.size (fun y => ([(slf, Value.ref e), (x, u)] : List (Str × Value)).reverse.lookup y) := ⟨oL, es', ep, k2 _ _ hle hL, hr⟩
  have X2 : K.In h2 := fun a o z => by
    refine k2 _ _ ?_ (X1 _ _ z)
    rintro rfl
    rw [heK] at z
    cases z
  show _root_.PySem.wpAt _ _ _ (execs [.Assign [.Attribute (.Name slf q1) x q2] (.Name x q3) q4] _) _ _ _
  refine ks_wpAt_execs_cons (ks_wpAt_Assign_Attr (wpAt_of_wpAny (ldN T.kind lx hns2 m2 px (ldN T.kind T.nself hns2 m1 ps ?_))))
  refine set_plain X2 (ox := excO C t1) (od := none) ⟨hx2, rfl, rfl, trivial⟩ T.ox.sa ?_
  refine exc_osa X2 hx2 hcd hmro hdict (T.noat x (by simp)) (fun h3 tk' dx k3 hle3 hne3 hx3 hn3 => ?_)
  show _root_.PySem.wpAt _ _ _ (execs [] _) _ _ _
  refine wpAt_of_wpAny (wpAny_execs_nil (hq h3 tk' t1 dx (fun b o hb z => k3 b o hb (kk b o hb z)) ?_ hne3 hx3 hn3))
  refine Nat.le_of_lt (Nat.lt_of_lt_of_le ?_ hle3)
  exact Heap.lt_size (k2 _ _ hle hL)
/-- __init__(self, x, y): super().__init__(x, y); self.x = x; self.y = y -/
theorem init_run2 {x y : Str} {p0 p1 p2 p3 p4 pa pb q1 q2 q3 q4 q5 q6 q7 q8 : Pos} (T : SupC prog K C f slf [x, y] qual params [.Expr (.Call (.Attribute (.Call (.Name "super" p0) [] [] p1) "__init__" p2) [.Name x pa, .Name y pb] [] p3) p4, .Assign [.Attribute (.Name slf q1) x q2] (.Name x q3) q4, .Assign [.Attribute (.Name slf q5) y q6] (.Name y q7) q8] scope cda cc) (hne : slf ≠ x) (hne2 : slf ≠ y) (hxy : x ≠ y) (hline : (p2.endLine == p3.line) = true)
    {h : Heap} {g : Array GenState} {d : Drawn} {t : Nat} {os : OsState} {e t0 : Addr} {u v : Value} {mb : Str → Option Value} {R : Result → Shared → Prop}
    (X : K.In h) (hg : h.Ns mainGlobals mg) (hms : mg "super" = none) (hb : h.Ns builtinsNs mb) (hbs : mb "super" = bootBuiltins "super") (lim : h.NoLimit) (room : A.depth < recursionLimit) (he : h.get? e = some (excO C t0)) (heK : K.lookup e = none)
    (hbind : ∀ fd, K.lookup f = some fd → ∀ F, fd.data = .func F → BindsTo ⟨h, g, d, t, os⟩ F ⟨[.ref e, u, v], []⟩ [(slf, .ref e), (x, u), (y, v)])
    (hq : ∀ h' t' t1 dx, (∀ b o, b ≠ e → h.get? b = some o → h'.get? b = some o) → h.objs.size ≤ dx → dx ≠ e → h'.get? e = some { cls := .ref C, dict := some dx, data := .fields #[.ref t1, .none, .none, .none, .bool false, .none] } → h'.Ns1 dx (fun z => if z = y then some v else if z = x then some u else none) → R (.ok (.ret .none)) ⟨h', g, d, t', os⟩) :
    codeAny (model prog w) A (.call (.ref f) ⟨[.ref e, u, v], []⟩) R ⟨h, g, d, t, os⟩ := by
  obtain ⟨name, kV, doc, pm, ct, an, oc, od, osl, hf⟩ := T.fn
  obtain ⟨cd, hcd, hmro, hdict⟩ := T.cls
  refine ks_codeAny_call_defAt (binds := [(slf, .ref e), (x, u), (y, v)]) room (X _ _ hf) rfl lim (codeRec_of X T.code) rfl (hbind _ hf _ rfl) T.nocell (fun z hz => ?_) (fun h₁ hns hk => ?_) T.co T.gen T.kind
  · rcases List.mem_cons.mp hz with rfl | hz
    · exact T.nself
    rcases List.mem_cons.mp hz with rfl | hz
    · exact T.nfs x (by simp)
    · rw [List.mem_singleton.mp hz]
      exact T.nfs y (by simp)
  have X1 : K.In h₁ := X.keeps hk
  have m1 : (fun z => ([(slf, Value.ref e), (x, u), (y, v)] : List (Str × Value)).reverse.lookup z) slf = some (.ref e) := by
    show ([(y, v), (x, u), (slf, Value.ref e)] : List (Str × Value)).lookup slf = _
    have h1 : (slf == x) = false := beq_eq_false_iff_ne.mpr hne
    have h2 : (slf == y) = false := beq_eq_false_iff_ne.mpr hne2
    simp [List.lookup, h1, h2]
  have m2 : (fun z => ([(slf, Value.ref e), (x, u), (y, v)] : List (Str × Value)).reverse.lookup z) x = some u := by
    show ([(y, v), (x, u), (slf, Value.ref e)] : List (Str × Value)).lookup x = _
    have h2 : (x == y) = false := beq_eq_false_iff_ne.mpr hxy
    simp [List.lookup, h2]
  have m3 : (fun z => ([(slf, Value.ref e), (x, u), (y, v)] : List (Str × Value)).reverse.lookup z) y = some v := by
    show ([(y, v), (x, u), (slf, Value.ref e)] : List (Str × Value)).lookup y = _
    simp [List.lookup]
  have hle : h.objs.size ≠ e := Nat.ne_of_gt (Heap.lt_size he)
  have px := T.plain x (by simp)
  have py := T.plain y (by simp)
  have ps := T.plain slf (by simp)
  have lx := T.nfs x (by simp)
  have ly := T.nfs y (by simp)
  refine ks_wpAt_execs_cons ?_
  refine sup_stmt (us := [u, v]) (pl := _) T X1 (hg.keeps hk) hms (hb.keeps hk) hbs hns m1 (hk _ _ he) (by show 2 ≤ sizeLine; rw [sizeLine_eq]; omega) rfl rfl (fun s' Q' E' hs' hQ => ?_) (form_of hline rfl) fun h2 t2 t1 k2 hx2 => ?_
  · exact spliced_cons (ldN T.kind lx hs' m2 px (spliced_cons (ldN T.kind ly hs' m3 py (spliced_nil hQ))))
  have kk : ∀ b o, b ≠ e → h.get? b = some o → h2.get? b = some o := fun b o hb z => k2 b o hb (hk b o z)
  obtain ⟨oL, es', ep, hL, hr⟩ := id hns
  have hns2 : h2.Ns h.objs.size (fun z => ([(slf, Value.ref e), (x, u), (y, v)] : List (Str × Value)).reverse.lookup z) := ⟨oL, es', ep, k2 _ _ hle hL, hr⟩
  have X2 : K.In h2 := fun a o z => by
    refine k2 _ _ ?_ (X1 _ _ z)
    rintro rfl
    rw [heK] at z
    cases z
  show _root_.PySem.wpAt _ _ _ (execs [.Assign [.Attribute (.Name slf q1) x q2] (.Name x q3) q4, .Assign [.Attribute (.Name slf q5) y q6] (.Name y q7) q8] _) _ _ _
  refine ks_wpAt_execs_cons (ks_wpAt_Assign_Attr (wpAt_of_wpAny (ldN T.kind lx hns2 m2 px (ldN T.kind T.nself hns2 m1 ps ?_))))
  refine set_plain X2 (ox := excO C t1) (od := none) ⟨hx2, rfl, rfl, trivial⟩ T.ox.sa ?_
  refine exc_osa X2 hx2 hcd hmro hdict (T.noat x (by simp)) (fun h3 tk' dx k3 hle3 hne3 hx3 hn3 => ?_)
  have X3 : K.In h3 := fun a o z => by
    refine k3 _ _ ?_ (X2 _ _ z)
    rintro rfl
    rw [heK] at z
    cases z
  have hns3 : h3.Ns h.objs.size (fun z => ([(slf, Value.ref e), (x, u), (y, v)] : List (Str × Value)).reverse.lookup z) := ⟨oL, es', ep, k3 _ _ hle (k2 _ _ hle hL), hr⟩
  show _root_.PySem.wpAt _ _ _ (execs [.Assign [.Attribute (.Name slf q5) y q6] (.Name y q7) q8] _) _ _ _
  refine ks_wpAt_execs_cons (ks_wpAt_Assign_Attr (wpAt_of_wpAny (ldN T.kind ly hns3 m3 py (ldN T.kind T.nself hns3 m1 ps ?_))))
  obtain ⟨oD, _, _, hoD, _, _⟩ := id hn3
  refine set_plain X3 (ox := { cls := .ref C, dict := some dx, data := .fields #[.ref t1, .none, .none, .none, .bool false, .none] }) (od := some oD) ⟨hx3, rfl, rfl, hoD⟩ T.ox.sa ?_
  refine PySem.OEX.osa_old X3 hx3 hn3 (nl := [x]) (fun z hz => ?_) (by simp) hcd hmro hdict (T.noat y (by simp)) (fun h4 tk4 k4 hn4 => ?_)
  · by_cases hzx : z = x
    · rw [hzx]
      exact List.mem_singleton_self _
    · simp [hzx] at hz
  show _root_.PySem.wpAt _ _ _ (execs [] _) _ _ _
  have hde : e ≠ dx := Ne.symm hne3
  have hlt : h.objs.size < dx := Nat.lt_of_lt_of_le (Heap.lt_size (k2 _ _ hle hL)) hle3
  refine wpAt_of_wpAny (wpAny_execs_nil (hq h4 tk4 t1 dx (fun b o hb z => k4 b o ?_ (k3 b o hb (kk b o hb z))) (Nat.le_of_lt hlt) hne3 (k4 _ _ hde hx3) hn4))
  rintro rfl
  exact absurd (Heap.lt_size z) (Nat.not_lt_of_le (Nat.le_of_lt hlt))
end
end PiX

set_option Elab.async false
set_option linter.all false
set_option maxRecDepth 100000
set_option maxHeartbeats 4000000
namespace PiX
open PySem PySem.W PySem.Calls PyProof.Rows PySem.HandSPX L2
/-- def f(slf, xs ..): .. -/
def prm (xs : List Arg) : Arguments := { posonlyargs := [], args := xs, vararg := none, kwonlyargs := [], kw_defaults := [], kwarg := none, defaults := [] }
section
variable {X : Cx} {pins : List (Addr × Obj)} {σ : L2.St} {H1 : Hp}
/-- the exception is let go, its dict stands as an exception's dict -/
theorem mk_sup {Q : XK} {C : Addr} {hp h' : Heap} {g : Array GenState} {d : Drawn} {t t' : Nat} {os : OsState} {fs : List (Str × V)} {mA : Str → Option Value} {t1 dx : Addr} (T : OexC X.K C) (I1 : Inv X pins σ H1 ⟨hp, g, d, t, os⟩)
    (k : ∀ b o, hp.get? b = some o → h'.get? b = some o) (hle : hp.objs.size ≤ dx) (hne : dx ≠ hp.objs.size + 1) (hx : h'.get? (hp.objs.size + 1) = some { cls := .ref C, dict := some dx, data := .fields #[.ref t1, .none, .none, .none, .bool false, .none] })
    (hn : h'.Ns1 dx mA) (rel : ∀ f, RelO (fs.lookup f) (mA f)) (q : Q (.ref C) (some dx) (upd H1 dx (.xd fs))) : MkP X pins σ Q (.ref (hp.objs.size + 1)) ⟨h', g, d, t', os⟩ := by
  obtain ⟨G, g1, g2⟩ := restrict h' fun b => decide (b ≠ hp.objs.size + 1)
  have gk : ∀ b, b ≠ hp.objs.size + 1 → G.get? b = h'.get? b := fun b hb => g1 b (decide_eq_true hb)
  have ge : G.get? (hp.objs.size + 1) = none := g2 _ (by simp)
  have J : Inv X pins σ (upd H1 dx (.xd fs)) { (⟨hp, g, d, t, os⟩ : Shared) with heap := G, toks := t' } :=
    I1.laid (t' := t') (fun b o z => (gk b (Nat.ne_of_lt (Nat.lt_succ_of_lt (Heap.lt_size z)))).trans (k b o z)) hle (show ObjOk X.prog X.w _ G dx (.xd fs) from ⟨mA, hn.at fun o z => (gk dx hne).trans z, rel⟩)
  refine ⟨hp.objs.size + 1, _, _, { (⟨hp, g, d, t, os⟩ : Shared) with heap := G, toks := t' }, _, .ref C, some dx, rfl, J, fun b o z => ?_, ge, hx, ⟨rfl, rfl⟩, rfl, rfl, ?_, rfl, I1.bare, raises_own T.exC T.tyC, q⟩
  · by_cases hb : b = hp.objs.size + 1
    · rw [hb, ge] at z
      cases z
    · exact (gk b hb).symm.trans z
  · rw [upd_ne (Ne.symm hne)]
    exact I1.hok.fresh (Nat.le_succ _)
theorem noK {hp : Heap} {g : Array GenState} {d : Drawn} {t : Nat} {os : OsState} (I : L2.Inv X pins σ H1 ⟨hp, g, d, t, os⟩) {a : Addr} (h : hp.objs.size ≤ a) : X.K.lookup a = none := by
  cases z : X.K.lookup a with
  | none => rfl
  | some o => exact absurd (Heap.lt_size (I.kIn _ _ z)) (Nat.not_lt_of_le h)
variable {C f cda cc : Addr} {qual : Str} {scope : Scope} {k : Nat} {x n : Str} {p pos : Pos} {ta : TA} {a1 a2 a3 : Arg}
theorem pmk_sup1 {e : Expr} {p0 p1 p2 p3 p4 pa q1 q2 q3 q4 : Pos} (T : SupC X.prog X.K C f a1.arg [a2.arg] qual (prm [a1, a2]) [.Expr (.Call (.Attribute (.Call (.Name "super" p0) [] [] p1) "__init__" p2) [.Name a2.arg pa] [] p3) p4, .Assign [.Attribute (.Name a1.arg q1) a2.arg q2] (.Name a2.arg q3) q4] scope cda cc) (hne : a1.arg ≠ a2.arg) (hline : (p2.endLine == p3.line) = true)
    (hbind : ∀ (nm : Str) (kV doc pm ct : Value) (an : Option Addr) (a b : Value), bindArgs (ksFn nm qual (prm [a1, a2]) [.Expr (.Call (.Attribute (.Call (.Name "super" p0) [] [] p1) "__init__" p2) [.Name a2.arg pa] [] p3) p4, .Assign [.Attribute (.Name a1.arg q1) a2.arg q2] (.Name a2.arg q3) q4] scope .none kV doc pm an (.ref cda) ct cc) ⟨[a, b], []⟩ = pure [(a1.arg, a), (a2.arg, b)])
    (hms : X.mg "super" = none) (hr : Room (k + 1) X.A) (hg : Gl X n) (hm : X.mg n = some (.ref C)) (ha : PA X [e] ta) (hdb : (n == ("__debug__" : Str)) = false) (he : starEach [e] X.env = (false, eval e X.env) :: starEach [] X.env) :
    PMk X (.Call (.Name n p) [e] [] pos) (fun σ H Q => ta σ H fun vs H1 => ∃ v, vs = [v] ∧ ∀ dx, H1 dx = none → Q (.ref C) (some dx) (upd H1 dx (.xd [(a2.arg, v)]))) := by
  intro pins s σ H Q I h
  obtain ⟨nm, q, N, bs, bm, sn, sub, ab, col, dd, k0, k1, k2, k3, k5, hC, hbm⟩ := T.ox.cls
  refine wpAny_Call_Name_kw (ld_glob I hg hm ?_ hdb)
  refine PySem.W.callWith_K (h₀ := X.base) I.ok.mod.kin T.ox.kC (thn (ha.run pos pins s σ H _ I h) fun us s1 ⟨vs, H1, I1, r1, q1⟩ => ⟨I1.kIn, ?_⟩) he (by rfl)
  show wpAny _ _ (call (.ref C) us) _ _ _
  obtain ⟨v, rfl, q1⟩ := q1
  obtain ⟨u, rfl, ru⟩ := r1.one
  obtain ⟨hp, g, dr, tk, os⟩ := s1
  obtain ⟨mb, hb1, hb2⟩ := I1.mod.blt
  have kk : ∀ b o, hp.get? b = some o → ((hp.push (PySem.W.kdv_tup [u])).push (PySem.HandSPX.excO C hp.objs.size)).get? b = some o := fun b o e => Heap.get?_push_of_some _ (Heap.get?_push_of_some _ e)
  have hget : ((hp.push (PySem.W.kdv_tup [u])).push (PySem.HandSPX.excO C hp.objs.size)).get? (hp.objs.size + 1) = some (PySem.HandSPX.excO C hp.objs.size) := by heap_get
  have hsz2 : hp.objs.size ≤ ((hp.push (PySem.W.kdv_tup [u])).push (PySem.HandSPX.excO C hp.objs.size)).objs.size := by
    rw [Heap.size_push, Heap.size_push]
    exact Nat.le_trans (Nat.le_succ _) (Nat.le_succ _)
  refine wpAny_call (PySem.HandSPX.call_own F.excBase_ValueError (fun Y => PySem.HandSPX.refsVE_contains Y bm hbm) (I1.kIn _ _ hC) (PySem.W.looks_findIn I1.kIn T.init) (fun self => PySem.W.bind_fn I1.kIn self T.tI) (by show 1 ≤ sizeLine; rw [sizeLine_eq]; omega)
    (init_run1 T hne hline (I1.kIn.keeps kk) (I1.mod.glob.keeps fun b o z => kk b o (I1.bk b o z)) hms (hb1.keeps fun b o z => kk b o (I1.bk b o z)) (hb2 _ (by decide)) (I1.nolimit.keeps kk) (hr.make C [u] []).depth hget (noK I1 (Nat.le_succ _)) ?_ ?_))
  · intro fd hfd F hF
    obtain ⟨name, kV, doc, pm, ct, an, oc, od, osl, hf⟩ := T.fn
    rw [hf] at hfd
    cases hfd
    cases hF
    exact BindsTo.of_eq (hbind _ _ _ _ _ _ _ _)
  · intro h' t' t1 dx k3 hle hne3 hx hn
    refine ⟨rfl, mk_sup (t' := t') T.ox I1 (fun b o z => k3 b o (Nat.ne_of_lt (Nat.lt_succ_of_lt (Heap.lt_size z))) (kk b o z)) (Nat.le_trans hsz2 hle) hne3 hx hn (fs := [(a2.arg, v)]) (fun y => ?_) (q1 dx (I1.hok.fresh (Nat.le_trans hsz2 hle)))⟩
    rw [lookup_put]
    by_cases hy : y = a2.arg
    · rw [if_pos hy, if_pos hy]
      exact ru
    · rw [if_neg hy, if_neg hy]
      exact True.intro
theorem pmk_sup2 {e e2 : Expr} {p0 p1 p2 p3 p4 pa pb q1 q2 q3 q4 q5 q6 q7 q8 : Pos} (T : SupC X.prog X.K C f a1.arg [a2.arg, a3.arg] qual (prm [a1, a2, a3]) [.Expr (.Call (.Attribute (.Call (.Name "super" p0) [] [] p1) "__init__" p2) [.Name a2.arg pa, .Name a3.arg pb] [] p3) p4, .Assign [.Attribute (.Name a1.arg q1) a2.arg q2] (.Name a2.arg q3) q4, .Assign [.Attribute (.Name a1.arg q5) a3.arg q6] (.Name a3.arg q7) q8] scope cda cc)
    (hne : a1.arg ≠ a2.arg) (hne2 : a1.arg ≠ a3.arg) (hxy : a2.arg ≠ a3.arg) (hline : (p2.endLine == p3.line) = true)
    (hbind : ∀ (nm : Str) (kV doc pm ct : Value) (an : Option Addr) (a b c : Value), bindArgs (ksFn nm qual (prm [a1, a2, a3]) [.Expr (.Call (.Attribute (.Call (.Name "super" p0) [] [] p1) "__init__" p2) [.Name a2.arg pa, .Name a3.arg pb] [] p3) p4, .Assign [.Attribute (.Name a1.arg q1) a2.arg q2] (.Name a2.arg q3) q4, .Assign [.Attribute (.Name a1.arg q5) a3.arg q6] (.Name a3.arg q7) q8] scope .none kV doc pm an (.ref cda) ct cc) ⟨[a, b, c], []⟩ = pure [(a1.arg, a), (a2.arg, b), (a3.arg, c)])
    (hms : X.mg "super" = none) (hr : Room (k + 1) X.A) (hg : Gl X n) (hm : X.mg n = some (.ref C)) (ha : PA X [e, e2] ta) (hdb : (n == ("__debug__" : Str)) = false) (he : starEach [e, e2] X.env = (false, eval e X.env) :: starEach [e2] X.env) (hpl : (backTo pos (starEach [e2] X.env)).any (·.1) = false) :
    PMk X (.Call (.Name n p) [e, e2] [] pos) (fun σ H Q => ta σ H fun vs H1 => ∃ v w, vs = [v, w] ∧ ∀ dx, H1 dx = none → Q (.ref C) (some dx) (upd H1 dx (.xd [(a3.arg, w), (a2.arg, v)]))) := by
  intro pins s σ H Q I h
  obtain ⟨nm, q, N, bs, bm, sn, sub, ab, col, dd, k0, k1, k2, k3, k5, hC, hbm⟩ := T.ox.cls
  refine wpAny_Call_Name_kw (ld_glob I hg hm ?_ hdb)
  refine PySem.W.callWith_K (h₀ := X.base) I.ok.mod.kin T.ox.kC (thn (ha.run pos pins s σ H _ I h) fun us s1 ⟨vs, H1, I1, r1, q1⟩ => ⟨I1.kIn, ?_⟩) he hpl
  show wpAny _ _ (call (.ref C) us) _ _ _
  obtain ⟨v, w', rfl, q1⟩ := q1
  obtain ⟨u, u2, rfl, ru, ru2⟩ := r1.two
  obtain ⟨hp, g, dr, tk, os⟩ := s1
  obtain ⟨mb, hb1, hb2⟩ := I1.mod.blt
  have kk : ∀ b o, hp.get? b = some o → ((hp.push (PySem.W.kdv_tup [u, u2])).push (PySem.HandSPX.excO C hp.objs.size)).get? b = some o := fun b o e => Heap.get?_push_of_some _ (Heap.get?_push_of_some _ e)
  have hget : ((hp.push (PySem.W.kdv_tup [u, u2])).push (PySem.HandSPX.excO C hp.objs.size)).get? (hp.objs.size + 1) = some (PySem.HandSPX.excO C hp.objs.size) := by heap_get
  have hsz2 : hp.objs.size ≤ ((hp.push (PySem.W.kdv_tup [u, u2])).push (PySem.HandSPX.excO C hp.objs.size)).objs.size := by
    rw [Heap.size_push, Heap.size_push]
    exact Nat.le_trans (Nat.le_succ _) (Nat.le_succ _)
  refine wpAny_call (PySem.HandSPX.call_own F.excBase_ValueError (fun Y => PySem.HandSPX.refsVE_contains Y bm hbm) (I1.kIn _ _ hC) (PySem.W.looks_findIn I1.kIn T.init) (fun self => PySem.W.bind_fn I1.kIn self T.tI) (by show 2 ≤ sizeLine; rw [sizeLine_eq]; omega)
    (init_run2 T hne hne2 hxy hline (I1.kIn.keeps kk) (I1.mod.glob.keeps fun b o z => kk b o (I1.bk b o z)) hms (hb1.keeps fun b o z => kk b o (I1.bk b o z)) (hb2 _ (by decide)) (I1.nolimit.keeps kk) (hr.make C [u, u2] []).depth hget (noK I1 (Nat.le_succ _)) ?_ ?_))
  · intro fd hfd F hF
    obtain ⟨name, kV, doc, pm, ct, an, oc, od, osl, hf⟩ := T.fn
    rw [hf] at hfd
    cases hfd
    cases hF
    exact BindsTo.of_eq (hbind _ _ _ _ _ _ _ _ _)
  · intro h' t' t1 dx k3 hle hne3 hx hn
    refine ⟨rfl, mk_sup (t' := t') T.ox I1 (fun b o z => k3 b o (Nat.ne_of_lt (Nat.lt_succ_of_lt (Heap.lt_size z))) (kk b o z)) (Nat.le_trans hsz2 hle) hne3 hx hn (fs := [(a3.arg, w'), (a2.arg, v)]) (fun y => ?_) (q1 dx (I1.hok.fresh (Nat.le_trans hsz2 hle)))⟩
    rw [lookup_put, lookup_put]
    by_cases hy : y = a3.arg
    · rw [if_pos hy, if_pos hy]
      exact ru2
    · rw [if_neg hy, if_neg hy]
      by_cases hy : y = a2.arg
      · rw [if_pos hy, if_pos hy]
        exact ru
      · rw [if_neg hy, if_neg hy]
        exact True.intro
/-- X(), a class without own __init__ -/
theorem pmk_own0 {C : Addr} {bmB : List Value} {B newId initId : String} (F : ExcBaseFacts B newId initId bmB) (q : PySem.W.excIn X.K C bmB newId = true) (gC : X.mg n = some (.ref C)) (kC : PySem.W.keepIn X.K (.ref C) = true) (r : Raises X (.ref C)) (hg : Gl X n)
    (hdb : (n == ("__debug__" : Str)) = false) : PMk X (.Call (.Name n p) [] [] pos) (fun _ H Q => Q (.ref C) none H) := by
  intro pins s σ H Q I h
  refine wpAny_Call_Name_kw (ld_glob I hg gC ?_ hdb)
  refine PySem.W.callWith_K0 I.kIn kC ?_
  show wpAny _ _ (call (.ref C) []) _ _ _
  obtain ⟨bm, N, nm, qn, bs, hdct, sn, sub, ab, col, dd, k0, k1, k2, k3, k5, mN, hC, hN, hni, T⟩ := exc_obj I.kIn q
  refine wpAny_call_exc_subT F T hC hN hni (fun h' e hm => ?_) (by show 0 ≤ sizeLine; omega)
  exact mk_of I hm r h (I.hok.gone hm.new)
end
end PiX

set_option Elab.async false
set_option linter.all false
set_option maxHeartbeats 4000000
namespace Pi
open PySem L2 PyProof.Rows

/-! ### data without objects of the store -/
mutual
def closed : D → Bool
  | .tup ds => closedL ds
  | .rol ds => closedL ds
  | .obj _ => false
  | .exn => false
  | _ => true
def closedL : List D → Bool
  | [] => true
  | d :: ds => closed d && closedL ds
end
mutual
def shD (k : Nat) : D → D
  | .tup ds => .tup (shL k ds)
  | .rol ds => .rol (shL k ds)
  | .obj n => .obj (k + n)
  | d => d
def shL (k : Nat) : List D → List D
  | [] => []
  | d :: ds => shD k d :: shL k ds
end
def shO (k : Nat) : Ob → Ob
  | .lst ds => .lst (shL k ds)
  | .rng lo n => .rng lo n
section
variable {B B' : Bd} {m m' : List Addr} {H H' : Hp} {S S' : Sto}
mutual
theorem Rep.cl (hK : B'.K = B.K) (hm : B'.mg = B.mg) : ∀ {d : D} {v : V}, Rep B' m' H v d → closed d = true → Rep B m H v d
  | .non, _, .non, _ => .non
  | .bl b, _, .bl _, _ => .bl b
  | .int i, _, .int _, _ => .int i
  | .str x, _, .str _, _ => .str x
  | .tup ds, _, .tup h hs, c => .tup (by rw [← hK]; exact h) (Reps.cl hK hm hs c)
  | .rol ds, _, .rol h hs, c => .rol (by rw [← hK]; exact h) (Reps.cl hK hm hs c)
  | .obj n, _, .obj h, c => by cases c
  | .fn x, _, .fn h, _ => .fn (by rw [← hm]; exact h)
  | .cls x, _, .cls h, _ => .cls (by rw [← hm]; exact h)
  | .ty n, _, .ty _, _ => .ty n
  | .exn, _, .exn h, c => by cases c
theorem Reps.cl (hK : B'.K = B.K) (hm : B'.mg = B.mg) : ∀ {ds : List D} {vs : List V}, Reps B' m' H vs ds → closedL ds = true → Reps B m H vs ds
  | [], _, .nil, _ => .nil
  | _ :: _, _, .cons h hs, c => by
    have c' := Bool.and_eq_true_iff.mp (show (closed _ && closedL _) = true from c)
    exact .cons (Rep.cl hK hm h c'.1) (Reps.cl hK hm hs c'.2)
end
mutual
theorem Rep.sh (m : List Addr) : ∀ {d : D} {v : V}, Rep B m' H v d → Rep B (m ++ m') H v (shD m.length d)
  | .non, _, .non => .non
  | .bl b, _, .bl _ => .bl b
  | .int i, _, .int _ => .int i
  | .str x, _, .str _ => .str x
  | .tup ds, _, .tup h hs => .tup h (Reps.sh m hs)
  | .rol ds, _, .rol h hs => .rol h (Reps.sh m hs)
  | .obj n, _, .obj h => .obj (by
    rw [List.getElem?_append_right (Nat.le_add_right _ _), Nat.add_sub_cancel_left]
    exact h)
  | .fn x, _, .fn h => .fn h
  | .cls x, _, .cls h => .cls h
  | .ty n, _, .ty _ => .ty n
  | .exn, _, .exn h => .exn h
theorem Reps.sh (m : List Addr) : ∀ {ds : List D} {vs : List V}, Reps B m' H vs ds → Reps B (m ++ m') H vs (shL m.length ds)
  | [], _, .nil => .nil
  | _ :: _, _, .cons h hs => .cons (Rep.sh m h) (Reps.sh m hs)
end
theorem ORep.sh (m : List Addr) {a : Addr} {o : Ob} (h : ORep B m' H a o) : ORep B (m ++ m') H a (shO m.length o) := by
  cases o with
  | lst ds =>
    obtain ⟨vs, h1, h2⟩ := h
    exact ⟨vs, h1, h2.sh m⟩
  | rng lo n => exact h
/-- behind a run in a store of its own: what was tracked is as it was -/
theorem Ext.frame (e : Ext [] H m' H') (rel : Rel B m H S) : Ext m H m H' where
  pre := List.prefix_rfl
  keep := fun a o _ h n => e.keep a o (by simp) h n
  out := fun _ _ h _ _ => h
  lst := fun a ha ⟨vs, h⟩ => ⟨vs, e.keep a _ (by simp) h fun ps z => by cases z⟩
theorem Low.of (e : Ext [] H m' H') : Low m H m H' := ⟨List.prefix_rfl, fun a o h t => e.keep a o (by simp) h fun ps z => by subst z; cases t⟩
theorem Rel.frame (e : Ext [] H m' H') (rel : Rel B m H S) (tb : LamX.Tabs B.T H') : Rel B m H' S := by
  refine ⟨rel.len, rel.nd, fun n a o h1 h2 => ?_, tb, fun p hp => e.keep _ _ (by simp) (rel.xd p hp) fun ps z => by cases z⟩
  refine (rel.ob n a o h1 h2).low (Low.of e) ?_
  rcases rel.kind (List.mem_of_getElem? h1) with ⟨vs, h⟩ | ⟨i, j, h⟩
  · rw [h]
    exact e.keep a _ (by simp) h fun ps z => by cases z
  · rw [h]
    exact e.keep a _ (by simp) h fun ps z => by cases z
theorem Rel.join (e : Ext [] H m' H') (rel : Rel B m H S) (rel' : Rel B m' H' S') : Rel B (m ++ m') H' (S ++ S'.map (shO m.length)) := by
  have relf := rel.frame e rel'.tb
  have dis : ∀ a ∈ m, a ∉ m' := fun a ha => by
    rcases rel.kind ha with ⟨vs, h⟩ | ⟨i, j, h⟩
    · exact e.out a _ (by simp) h fun ps z => by cases z
    · exact e.out a _ (by simp) h fun ps z => by cases z
  refine ⟨by simp [rel.len, rel'.len], ?_, fun n a o h1 h2 => ?_, rel'.tb, rel'.xd⟩
  · rw [List.nodup_append]
    exact ⟨rel.nd, rel'.nd, fun a ha b hb z => dis a ha (by rw [z]; exact hb)⟩
  · by_cases hn : n < m.length
    · rw [List.getElem?_append_left hn] at h1
      rw [List.getElem?_append_left (by rw [← rel.len]; exact hn)] at h2
      exact (relf.ob n a o h1 h2).low ⟨List.prefix_append _ _, fun _ _ h _ => h⟩ rfl
    · rw [List.getElem?_append_right (by omega)] at h1
      rw [List.getElem?_append_right (by rw [← rel.len]; omega), ← rel.len, List.getElem?_map] at h2
      obtain ⟨o', h3, rfl⟩ := Option.map_eq_some_iff.mp h2
      exact (rel'.ob _ a o' h1 h3).sh m
theorem Ext.join (e : Ext [] H m' H') (rel : Rel B m H S) : Ext m H (m ++ m') H' where
  pre := List.prefix_append _ _
  keep := fun a o _ h n => e.keep a o (by simp) h n
  out := fun a o h1 h2 n h3 => by
    rcases List.mem_append.mp h3 with z | z
    · exact h1 z
    · exact e.out a o (by simp) h2 n z
  lst := fun a ha ⟨vs, h⟩ => ⟨vs, e.keep a _ (by simp) h fun ps z => by cases z⟩
theorem Rel.none (rel : Rel B m H S) : Rel B [] H [] := ⟨rfl, List.nodup_nil, fun n a o h => by simp at h, rel.tb, rel.xd⟩
end

/-! ### a program -/
structure Dfn where
  n : Nat
  sl : Nat
  body : Ss
structure Tdf where
  sl : Nat
  ie : Nat
  cls : Str
  body : Ss
  ret : V
inductive Ck where
  | plain | sup (fs : List Str)
structure Prg where
  fns : Str → Option Dfn
  told : Str → Option Tdf
  glo : Str → Option D
  ck : Str → Option Ck
  sub : Str → Str → Option Bool
  fuel : Nat
def excOf (G : Prg) (x : Str) (ds : List D) : Option Ex := match G.ck x with
  | some .plain => (match ds with
    | [] => some ⟨x, none⟩
    | _ => none)
  | some (.sup [f]) => (match ds with
    | [d] => d.flat.map fun v => ⟨x, some [(f, v)]⟩
    | _ => none)
  | some (.sup [f, g]) => (match ds with
    | [d, e] => (match d.flat, e.flat with
      | some v, some w => some ⟨x, some [(g, w), (f, v)]⟩
      | _, _ => none)
    | _ => none)
  | _ => none
def parH (G : Prg) (e : Ex) : Par := { call := fun _ _ _ => .no, told := fun _ _ => .no, glo := G.glo, exc := fun _ _ => none, hand := some e, sub := G.sub, fuel := G.fuel, calm := false }
/-- the fields that its class has -/
def exOk (G : Prg) (e : Ex) : Bool := match e.fs with
  | none => true
  | some fs => (match G.ck e.cls with
    | some (.sup gs) => fs.all fun p => decide (p.1 ∈ gs)
    | _ => false)
def toldR (G : Prg) (x : Str) (r : Res D) : Res D := match G.told x with
  | none => .no
  | some t => (match r with
    | .ok _ S => .ok (D.ofV t.ret) S
    | .er e S => if (decide (G.sub e.cls t.cls = some true) && exOk G e) = true then (match exs (parH G e) t.body ((List.replicate t.sl none).set t.ie (some .exn)) [] with
      | .ok (.rt d) _ => if closed d = true then .ok d S else .no
      | _ => .no) else .no
    | .no => .no)
def mkPar (G : Prg) (call : Str → List D → Sto → Res D) : Par := { call := call, told := toldR G, glo := G.glo, exc := excOf G, hand := none, sub := G.sub, fuel := G.fuel, calm := true }
def entry (d : Dfn) (ds : List D) : Env := ds.map some ++ List.replicate (d.sl - ds.length) none
def runB (P : Par) (d : Dfn) (ds : List D) (S : Sto) : Res D := match exs P d.body (entry d ds) S with
  | .ok (.nx _) S' => .ok .non S'
  | .ok (.rt v) S' => .ok v S'
  | .ok _ _ => .no
  | .er e S' => .er e S'
  | .no => .no
def backC (S : Sto) : Res D → Res D
  | .ok d S' => if closed d = true then .ok d S else .ok (shD S.length d) (S ++ S'.map (shO S.length))
  | .er e _ => .er e S
  | .no => .no
def callN (G : Prg) : Nat → Str → List D → Sto → Res D
  | 0, _, _, _ => .no
  | n + 1, x, ds, S => (match G.fns x with
    | none => .no
    | some d => if ds.length = d.n then (if closedL ds = true then backC S (runB (mkPar G (callN G n)) d ds []) else runB (mkPar G (callN G n)) d ds S) else .no)
abbrev parN (G : Prg) (n : Nat) : Par := mkPar G (callN G n)
section
variable {B : Bd} {m m' : List Addr} {H H' : Hp} {S S' : Sto} {G : Prg} {P : Par} {d : Dfn} {ds : List D} {Q : VK} {E : WXH}
/-- a body's end as a call's -/
theorem runB_post {σ : L2.St} (h : PostE B (Rep B) (runB P d ds S) m H Q E) : PostE B (RFl B) (exs P d.body (entry d ds) S) m H (endQ { nx := fun _ H' => Q .non H', rt := Q }) E := by
  unfold runB at h
  cases q : exs P d.body (entry d ds) S with
  | ok fl S1 =>
    rw [q] at h
    cases fl with
    | nx ρ =>
      intro m1 H1 b e rel r
      cases b with
      | nx σ' => exact h m1 H1 .non e rel .non
      | _ => exact r.elim
    | rt v =>
      intro m1 H1 b e rel r
      cases b with
      | rt w => exact h m1 H1 w e rel r
      | _ => exact r.elim
    | bk ρ => exact h.elim
    | ct ρ => exact h.elim
  | er e S1 =>
    rw [q] at h
    exact h
  | no =>
    rw [q] at h
    exact h
theorem backC_post {r : Res D} (rel : Rel B m H S) (h : PostE B (Rep B) (backC S r) m H Q E) : PostE B (Rep B) r [] H Q E := by
  cases r with
  | ok d S1 =>
    intro m1 H1 v e rel1 r1
    unfold backC at h
    by_cases hc : closed d = true
    · have h : PostE B (Rep B) (if closed d = true then .ok d S else .ok (shD S.length d) (S ++ S1.map (shO S.length))) m H Q E := h
      rw [if_pos hc] at h
      exact h m H1 v (e.frame rel) (rel.frame e rel1.tb) (r1.cl rfl rfl hc)
    · have h : PostE B (Rep B) (if closed d = true then .ok d S else .ok (shD S.length d) (S ++ S1.map (shO S.length))) m H Q E := h
      rw [if_neg hc, ← rel.len] at h
      exact h (m ++ m1) H1 v (e.join rel) (rel.join e rel1) (r1.sh m)
  | er x S1 =>
    intro m1 H1 cls dd e rel1 r1
    exact h m H1 cls dd (e.frame rel) (rel.frame e rel1.tb) r1
  | no => exact h
theorem entry_env {N : List Str} {vs : List V} (hN : N.length = d.sl) (hl : ds.length ≤ d.sl) (r : Reps B m H vs ds) : EnvR B m H (L2.start N vs) (entry d ds) := by
  have hv := r.length
  refine ⟨by simp [L2.start, entry, hv, hN], fun i e h => ?_⟩
  unfold entry at h
  unfold L2.start
  by_cases hi : i < ds.length
  · rw [List.getElem?_append_left (by simpa using hi), List.getElem?_map] at h
    obtain ⟨e', h1, h2⟩ := Option.map_eq_some_iff.mp h
    cases h2
    obtain ⟨v, h3, h4⟩ := r.get h1
    rw [List.getElem?_append_left (by simpa [hv] using hi), List.getElem?_map, h3]
    exact ⟨v, rfl, h4⟩
  · rw [List.getElem?_append_right (by simpa using hi), List.getElem?_replicate] at h
    split at h <;> cases h
/-- a call's promise from its body's -/
theorem callN_post {N : List Str} {vs : List V} {x : Str} {n : Nat} (hd : G.fns x = some d) (hN : N.length = d.sl) (hl : d.n ≤ d.sl) (rel : Rel B m H S) (r : Reps B m H vs ds) (h : PostE B (Rep B) (callN G (n + 1) x ds S) m H Q E) :
    ds.length = d.n ∧ rS B E (exs (parN G n) d.body) { nx := fun _ H' => Q .non H', rt := Q } (L2.start N vs) H := by
  unfold callN at h
  rw [hd] at h
  have h : PostE B (Rep B) (if ds.length = d.n then (if closedL ds = true then backC S (runB (mkPar G (callN G n)) d ds []) else runB (mkPar G (callN G n)) d ds S) else .no) m H Q E := h
  by_cases h1 : ds.length = d.n
  · rw [if_pos h1] at h
    refine ⟨h1, ?_⟩
    by_cases h2 : closedL ds = true
    · rw [if_pos h2] at h
      exact ⟨[], entry d ds, [], rel.none, entry_env hN (by rw [h1]; exact hl) (r.cl rfl rfl h2), runB_post (σ := []) (backC_post rel h)⟩
    · rw [if_neg h2] at h
      exact ⟨m, entry d ds, S, rel, entry_env hN (by rw [h1]; exact hl) r, runB_post (σ := []) h⟩
  · rw [if_neg h1] at h
    exact h.elim
end
end Pi

set_option Elab.async false
set_option linter.all false
set_option maxRecDepth 100000
set_option maxHeartbeats 4000000
namespace Pi
open PySem L2 PyProof.Rows PiX

/-! ### classes -/
/-- X(..) as the table of classes has it -/
def ClsOk (B : Bd) (G : Prg) (P : Program) (x : Str) (n : Nat) : Prop := ∀ (X : Cx) (W : WXH) (Pr : Par) (es : List Expr) (xs : Es) (p pos : Pos), X.prog = P → Is X B → Room 1 X.A → Pr.exc = excOf G → Gl X x → (x == ("__debug__" : Str)) = false → es.length = n → noStar es = true → (es = [] → xs = .nil) →
  PA X es (rEs B Pr W xs) → PMk X (.Call (.Name x p) es [] pos) (rMk B Pr W x xs)
theorem PMk.imp {X : Cx} {e : Expr} {t t' : L2.St → Hp → XK → Prop} (h : PMk X e t) (hi : ∀ σ H Q, t' σ H Q → t σ H Q) : PMk X e t' := fun pins s σ H Q I hw => h pins s σ H Q I (hi _ _ _ hw)
section
variable {B : Bd} {G : Prg} {P : Program}
theorem cls_own0 {x : Str} {C : Addr} {Bn newId initId : String} {bmB : List Value} (hk : G.ck x = some .plain) (F : ExcBaseFacts Bn newId initId bmB) (q : PySem.W.excIn B.K C bmB newId = true) (gC : B.mg x = some (.ref C)) (kC : PySem.W.keepIn B.K (.ref C) = true)
    (h1 : PySem.W.subIn B.K (.ref C) (.type "BaseException") = some true) (h2 : PySem.W.typeIn B.K (.ref C) = some (.type "type")) : ClsOk B G P x 0 := by
  intro X W Pr es xs p pos hP hI hr hx hg hdb hl hn h0 ha
  obtain rfl : es = [] := List.eq_nil_of_length_eq_zero hl
  obtain rfl := h0 rfl
  refine PMk.imp (pmk_own0 F (by rw [hI.K]; exact q) (by rw [hI.mg]; exact gC) (by rw [hI.K]; exact kC) (raises_own (by rw [hI.K]; exact h1) (by rw [hI.K]; exact h2)) hg hdb) fun σ H Q h => ?_
  obtain ⟨m, ρ, S, rel, er, h⟩ := h
  obtain ⟨m1, S1, ds, e, rel1, r1, he, h1⟩ := h m H [] Ext.refl rel .nil
  obtain rfl : ds = [] := by cases r1; rfl
  rw [hx] at he
  have he : excOf G x [] = some e := he
  unfold excOf at he
  rw [hk] at he
  cases he
  exact h1 m1 H (.ref C) none Ext.refl rel1 ⟨C, gC, rfl, rfl⟩
theorem exc1 {G : Prg} {x f : Str} {ds : List D} {e : Ex} (hk : G.ck x = some (.sup [f])) (h : excOf G x ds = some e) : ∃ d v, ds = [d] ∧ d.flat = some v ∧ e = ⟨x, some [(f, v)]⟩ := by
  unfold excOf at h
  rw [hk] at h
  match ds, h with
  | [], h => cases h
  | [d], h =>
    obtain ⟨v, hv, rfl⟩ := Option.map_eq_some_iff.mp (show d.flat.map (fun v => (⟨x, some [(f, v)]⟩ : Ex)) = some e from h)
    exact ⟨d, v, rfl, hv, rfl⟩
  | _ :: _ :: _, h => cases h
theorem exc2 {G : Prg} {x f g : Str} {ds : List D} {e : Ex} (hk : G.ck x = some (.sup [f, g])) (h : excOf G x ds = some e) : ∃ d d2 v w, ds = [d, d2] ∧ d.flat = some v ∧ d2.flat = some w ∧ e = ⟨x, some [(g, w), (f, v)]⟩ := by
  unfold excOf at h
  rw [hk] at h
  match ds, h with
  | [], h => cases h
  | [_], h => cases h
  | [d, d2], h =>
    have h : (match d.flat, d2.flat with
      | some v, some w => some (⟨x, some [(g, w), (f, v)]⟩ : Ex)
      | _, _ => none) = some e := h
    cases hv : d.flat with
    | none => rw [hv] at h; cases h
    | some v =>
      cases hw : d2.flat with
      | none => rw [hv, hw] at h; cases h
      | some w =>
        rw [hv, hw] at h
        cases h
        exact ⟨d, d2, v, w, rfl, hv, hw, rfl⟩
  | _ :: _ :: _ :: _, h => cases h
theorem sup_mk1 {x : Str} {C : Addr} {f : Str} {Pr : Par} {W : WXH} {xs : Es} {σ : L2.St} {H : Hp} {Q : XK} (hk : G.ck x = some (.sup [f])) (gC : B.mg x = some (.ref C)) (hx : Pr.exc = excOf G) (h : rMk B Pr W x xs σ H Q) :
    rEs B Pr W xs σ H fun vs H1 => ∃ v, vs = [v] ∧ ∀ dx, H1 dx = none → Q (.ref C) (some dx) (upd H1 dx (.xd [(f, v)])) := by
  obtain ⟨m, ρ, S, rel, er, h⟩ := h
  refine ⟨m, ρ, S, rel, er, PostE.mono h (fun vs H1 ⟨m1, S1, ds, e, rel1, r1, he, h1⟩ => ?_) fun _ _ _ h => h⟩
  rw [hx] at he
  obtain ⟨d, v, rfl, hv, rfl⟩ := exc1 hk he
  cases r1 with
  | cons ra rb =>
    cases rb
    obtain ⟨rfl, _⟩ := ra.toFlat hv
    exact ⟨_, rfl, fun dx hd => h1 m1 _ _ _ (Ext.new hd) (rel1.new0 hd) ⟨C, gC, rfl, dx, rfl, upd_same⟩⟩
theorem sup_mk2 {x : Str} {C : Addr} {f g : Str} {Pr : Par} {W : WXH} {xs : Es} {σ : L2.St} {H : Hp} {Q : XK} (hk : G.ck x = some (.sup [f, g])) (gC : B.mg x = some (.ref C)) (hx : Pr.exc = excOf G) (h : rMk B Pr W x xs σ H Q) :
    rEs B Pr W xs σ H fun vs H1 => ∃ v w, vs = [v, w] ∧ ∀ dx, H1 dx = none → Q (.ref C) (some dx) (upd H1 dx (.xd [(g, w), (f, v)])) := by
  obtain ⟨m, ρ, S, rel, er, h⟩ := h
  refine ⟨m, ρ, S, rel, er, PostE.mono h (fun vs H1 ⟨m1, S1, ds, e, rel1, r1, he, h1⟩ => ?_) fun _ _ _ h => h⟩
  rw [hx] at he
  obtain ⟨d, d2, v, w, rfl, hv, hw, rfl⟩ := exc2 hk he
  cases r1 with
  | cons ra rb =>
    cases rb with
    | cons rb rc =>
      cases rc
      obtain ⟨rfl, _⟩ := ra.toFlat hv
      obtain ⟨rfl, _⟩ := rb.toFlat hw
      exact ⟨_, _, rfl, fun dx hd => h1 m1 _ _ _ (Ext.new hd) (rel1.new0 hd) ⟨C, gC, rfl, dx, rfl, upd_same⟩⟩
theorem noStar_each {e : Expr} {es : List Expr} {env : PySem.Env} (h : noStar (e :: es) = true) : starEach (e :: es) env = (false, eval e env) :: starEach es env := by
  cases e <;> first | rfl | cases h
theorem noStar_any {e e2 : Expr} {env : PySem.Env} {pos : Pos} (h : noStar [e, e2] = true) : (backTo pos (starEach [e2] env)).any (·.1) = false := by
  have h2 : noStar [e2] = true := by cases e <;> first | exact h | cases h
  rw [noStar_each h2]
  rfl
end

/-! ### defs -/
/-- how a def is compiled -/
def csD (N : List Str) (st : Stmt) (gt : List (Str × GK)) (lm : Bool) : Cs := { N := N, sc := defScope st, fnc := N, calm := true, G := gt, tk := true, lm := lm }
/-- what is known of a def -/
structure FnF (B : Bd) (gt : List (Str × GK)) (lm : Bool) (x : Str) (d : Dfn) : Prop where
  ex : ∃ (st : Stmt) (N ps : List Str) (f : Addr) (fd : FuncData), Fun B.K x x st f fd ∧ B.mg x = some (.ref f) ∧ Binds B.K fd ps [] ∧ FnScope N ps (defScope st) ∧ N.length = d.sl ∧ ps.length = d.n ∧ cSs 60 (csD N st gt lm) (defBody st) = some d.body
/-- what is known of the module -/
structure ModF (B : Bd) (G : Prg) (gt : List (Str × GK)) (P : Program) : Prop where
  hand : B.hand = none
  xds : B.xds = []
  sup : B.mg "super" = none
  blt : ∀ x ∈ allB, gt.lookup x = none → B.mg x = none
  glo : ∀ x d, G.glo x = some d → gt.lookup x = some .val → closed d = true ∧ ∃ v u, B.mg x = some u ∧ RelV v u ∧ ∀ m H, Rep B m H v d
  cls : ∀ x n, gt.lookup x = some (.cls n) → (∃ C, B.mg x = some (.ref C)) ∧ ClsOk B G P x n
  fns : ∀ x n, gt.lookup x = some (.fn n) → ∃ d, G.fns x = some d ∧ d.n = n ∧ FnF B gt false x d
section
variable {B : Bd} {G : Prg} {gt : List (Str × GK)} {P : Program} {w : World} {base : Heap}
theorem isGl_dbg {C : Cs} {x : Str} (h : isGl C x = true) : (x == ("__debug__" : Str)) = false := by
  simp only [isGl, plainN, Bool.and_eq_true, Bool.not_eq_true'] at h
  exact h.1.1.1
/-- a def's context -/
theorem ctx_ok (M : ModF B G gt P) {n : Nat} (ih : ∀ x d, gt.lookup x = some (.fn d.n) → G.fns x = some d → FnF B gt false x d →
      ∃ (f : Addr) (fd : FuncData) (ps : List Str), FnOk P w B.K B.mg base (L2.CX P w) (3 * n) f fd ps (spC B (parN G n) x d.n) ∧ B.mg x = some (.ref f) ∧ PySem.W.keepIn B.K (.ref f) = true ∧ Binds B.K fd ps [])
    {st : Stmt} {N ps : List Str} {x : Str} {f : Addr} {cdv : Value} {A : Around} {outer : List PySem.Env} {s : Shared} {H : Hp} {E : XK} {lm : Bool} (S : FnScope N ps (defScope st)) (hr : Room (3 * n + 2) (A.deeper (envOfC x (defScope st) s.heap.objs.size f cdv)))
    (told : lm = true → Okc (cxOf (L2.CX P w) P w B.K B.mg base N x (defScope st) f cdv A outer s H E) B (csD N st gt true) (parN G n) E) :
    Oks (cxOf (L2.CX P w) P w B.K B.mg base N x (defScope st) f cdv A outer s H E) B (csD N st gt lm) (parN G n) E := by
  have is : Is (cxOf (L2.CX P w) P w B.K B.mg base N x (defScope st) f cdv A outer s H E) B := ⟨rfl, rfl, by
    have := hr.un
    show (A.deeper (envOfC x (defScope st) s.heap.objs.size f cdv)).units + 200 < _
    omega⟩
  have ob : Okb (cxOf (L2.CX P w) P w B.K B.mg base N x (defScope st) f cdv A outer s H E) B (csD N st gt lm) (parN G n) E := {
    is := is
    N := rfl
    nd := S.nd
    sc := rfl
    cm := fun _ => rfl
    pc := fun _ => rfl
    fnc := fun _ _ => rfl
    blt := M.blt
    glo := fun x d h1 h2 => (M.glo x d h1 h2).2
    fn := fun y k _ hy => by
      obtain ⟨d, h1, rfl, h2⟩ := M.fns y k hy
      obtain ⟨f', fd', ps', h3, h4, h5, h6⟩ := ih y d hy h1 h2
      exact ⟨f', fd', ps', 3 * n, h3, hr.mono (by omega), h4, h5, h6⟩
    tk := takes_of rfl rfl rfl rfl
    cls := fun y hy => by
      unfold isCls at hy
      split at hy
      · rename_i k hk
        exact (M.cls y k hk).1
      · cases hy
    hand := .inl rfl
    hc := fun _ => rfl }
  have oc : Okc (cxOf (L2.CX P w) P w B.K B.mg base N x (defScope st) f cdv A outer s H E) B (csD N st gt lm) (parN G n) E := by
    cases lm with
    | true => exact told rfl
    | false => exact ⟨ob, fun z => by cases z⟩
  refine { toOkc := oc, pass := fun _ => passes_of rfl, exc := fun _ y es xs p pos hk hg hn h0 hl ha => ?_ }
  unfold clsAr at hk
  split at hk
  · rename_i k hk2
    exact (M.cls y k hk2).2 _ E (parN G n) es xs p pos rfl is (hr.mono (by omega)) rfl (oc.toOkb.gl hg).1 (isGl_dbg hg) (Option.some.inj hk).symm hn h0 ha
  · cases hk
/-- every def does what the interpreter says -/
theorem fns_ok (M : ModF B G gt P) : ∀ (n : Nat) (x : Str) (d : Dfn), gt.lookup x = some (.fn d.n) → G.fns x = some d → FnF B gt false x d →
      ∃ (f : Addr) (fd : FuncData) (ps : List Str), FnOk P w B.K B.mg base (L2.CX P w) (3 * n) f fd ps (spC B (parN G n) x d.n) ∧ B.mg x = some (.ref f) ∧ PySem.W.keepIn B.K (.ref f) = true ∧ Binds B.K fd ps []
  | 0, x, d, hx, hd, F => by
    obtain ⟨st, N, ps, f, fd, F, hm, hb, S, hN, hp, hc⟩ := F.ex
    refine ⟨f, fd, ps, ?_, hm, F.kp, hb⟩
    exact ⟨fun vs H Q E ⟨m, S, ds, _, _, _, h⟩ => h.elim, fun A outer s H args us vs Q E _ _ _ _ ⟨m, S, ds, _, _, _, h⟩ => h.elim⟩
  | n + 1, x, d, hx, hd, F => by
    obtain ⟨st, N, ps, f, fd, F, hm, hb, S, hN, hp, hc⟩ := F.ex
    refine ⟨f, fd, ps, ?_, hm, F.kp, hb⟩
    refine Fun.okX F S (fun vs H Q E ⟨m, S, ds, _, r, hl, h⟩ => by rw [r.length, hl, hp]) fun cdv A outer s H vs Q E hr ⟨m, S1, ds, rel, r, hl, h⟩ => ?_
    refine ⟨_, (soundS B 60).ss hc (ctx_ok M (fns_ok M n) S hr fun z => by cases z), ?_⟩
    have hle : d.n ≤ d.sl := by
      have h1 := congrArg List.length S.pre
      rw [List.length_take] at h1
      omega
    exact (callN_post hd hN hle rel r h).2
end
end Pi

set_option Elab.async false
set_option linter.all false
set_option maxRecDepth 100000
set_option maxHeartbeats 4000000
namespace Pi
open PySem L2 PyProof.Rows PiX

/-! ### isinstance(e, X), e the caught error -/
theorem call_isX {X : Cx} {a C : Addr} {oe : Obj} {d : Option Addr} {pn : List (Addr × Obj)} (T : ExcC X.K C) (hz : Zc (.ref C) d oe) (hf : ∃ vs, oe.data = .fields vs) :
    CallR (X.suite a ((a, oe) :: pn)) (.builtin "isinstance") (fun xs H Q => ∃ (D : Addr) (b : Bool), xs = [.ref a, .ref D] ∧ PySem.W.kitOne X.K (.ref C) (.ref D) = some b ∧ (d = none ∨ ∃ dd fs, d = some dd ∧ H dd = some (.xd fs)) ∧ Q (.bl b) H) := by
  intro pins s σ H xs us Q I r h
  obtain ⟨D, b, rfl, e, hd, q⟩ := h
  cases r with
  | cons rx rr =>
    cases rr with
    | cons rt rr =>
      cases rr
      cases rx
      cases rt
      obtain ⟨hget, _⟩ := I.pin (a, oe) (List.mem_append_left _ List.mem_cons_self)
      obtain ⟨vs, hv⟩ := hf
      have J : ∃ od, PySem.W.InstAt s.heap a oe C od := by
        rcases hd with rfl | ⟨dd, fs, rfl, hx⟩
        · exact ⟨none, hget, hz.1, by unfold PySem.W.notCls; rw [hv] <;> rfl, by rw [hz.2]; trivial⟩
        · obtain ⟨mA, hns, _⟩ : ObjOk X.prog X.w H s.heap dd (.xd fs) := I.hok dd _ hx
          obtain ⟨od, ho, _⟩ := lookIn_ns hns
          exact ⟨some od, hget, hz.1, by unfold PySem.W.notCls; rw [hv] <;> rfl, by rw [hz.2]; exact ho⟩
      obtain ⟨od, J⟩ := J
      have hcl : (PySem.W.clsIn X.K C).isSome = true := by
        obtain ⟨cd, hc, _⟩ := PySem.W.any_some T.hd
        rw [hc]
        rfl
      exact PySem.W.kia_one (PySem.W.kitx_exc hcl T.hg T.hk T.hs T.ha T.hn T.ht T.hm) I.kIn J e (fun z => nomatch z) fun tk => ⟨.bl b, H, I.kept (t' := tk) fun _ _ z => z, rfl, q⟩

/-! ### what is known of the classes -/
structure ExF (B : Bd) (G : Prg) : Prop where
  ofc : ∀ c x b, G.sub c x = some b → ∀ C D, B.mg c = some (.ref C) → B.mg x = some (.ref D) → PySem.W.kitOne B.K (.ref C) (.ref D) = some b ∧ ExcC B.K C
  exm : ∀ c x, G.sub c x = some true → ∀ C D, B.mg c = some (.ref C) → B.mg x = some (.ref D) → PySem.W.exmOne B.K (.ref C) (.ref D) = some true
  fld : ∀ c fs, G.ck c = some (.sup fs) → ∀ C, B.mg c = some (.ref C) → XfC B.K C ∧ ∀ f ∈ fs, PySem.W.findIn B.K (.ref C) f = some none
/-- with the error in hand -/
abbrev Bd.of (B : Bd) (a : Addr) (e : Ex) (d : Option Addr) : Bd := { B with hand := some a, xds := match e.fs, d with
  | some fs, some dx => [(dx, fs)]
  | _, _ => [] }
section
variable {B : Bd} {G : Prg} {gt : List (Str × GK)} {P : Program}
theorem ERep.dict {H : Hp} {cls : Value} {d : Option Addr} {e : Ex} (h : ERep B H cls d e) : ∃ C, B.mg e.cls = some (.ref C) ∧ cls = .ref C ∧ ((d = none ∧ e.fs = none) ∨ ∃ dd fs, d = some dd ∧ e.fs = some fs ∧ H dd = some (.xd fs)) := by
  obtain ⟨C, h1, h2, h3⟩ := h
  refine ⟨C, h1, h2, ?_⟩
  split at h3
  · rename_i q
    exact .inl ⟨h3, q⟩
  · rename_i fs q
    obtain ⟨a, h4, h5⟩ := h3
    exact .inr ⟨a, fs, h4, q, h5⟩
/-- the except suite's context -/
theorem suite_ok (M : ModF B G gt P) (F : ExF B G) {X : Cx} {C : Cs} {a : Addr} {oe : Obj} {cls : Value} {d : Option Addr} {pn : List (Addr × Obj)} {e : Ex} {st : Stmt} {N : List Str} {CA : Addr} (hI : Is X B) (hC : C = { N := N, sc := defScope st, fnc := [], calm := false, G := gt, tk := false, lm := false }) (hN : X.N = N) (hnd : N.Nodup) (hs : X.env.scope = defScope st) (hz : Zc cls d oe) (hf : ∃ vs, oe.data = .fields vs)
    (h1 : B.mg e.cls = some (.ref CA)) (h2 : cls = .ref CA) (h3 : (d = none ∧ e.fs = none) ∨ ∃ dd fs, d = some dd ∧ e.fs = some fs) (hk : exOk G e = true) :
    Oks (X.suite a ((a, oe) :: pn)) (B.of a e d) C (parH G e) NoW := by
  subst h2
  subst hC
  have ob0 : ∀ x, isCls { N := N, sc := defScope st, fnc := [], calm := false, G := gt, tk := false, lm := false } x = true → ∃ K, X.mg x = some (.ref K) := fun x hx => by
    unfold isCls at hx
    split at hx
    · rename_i k hk
      rw [hI.mg]
      exact (M.cls x k hk).1
    · cases hx
  have noU : B.mg "isinstance" = none ∨ (gt.lookup ("isinstance" : Str)).isNone = false := by
    cases q : gt.lookup ("isinstance" : Str) with
    | none => exact .inl (M.blt _ (by decide) q)
    | some k => exact .inr rfl
  have glX : ∀ {x : Str}, isGl { N := N, sc := defScope st, fnc := [], calm := false, G := gt, tk := false, lm := false } x = true → Gl (X.suite a ((a, oe) :: pn)) x ∧ (x == ("__debug__" : Str)) = false := fun {x} h => by
    refine ⟨?_, isGl_dbg h⟩
    simp only [isGl, Bool.and_eq_true, decide_eq_true_eq] at h
    show X.env.scope.names.lookup x = some .globalImplicit
    rw [hs]
    exact h.2
  refine ⟨⟨?_, fun z => (Bool.noConfusion z)⟩, fun z => (Bool.noConfusion z), fun z => (Bool.noConfusion z)⟩
  exact {
    is := ⟨hI.K, hI.mg, hI.un⟩
    N := hN
    nd := hnd
    sc := hs
    cm := fun z => by cases z
    pc := fun z => by cases z
    fnc := fun x hx => by cases hx
    blt := fun x hx hg => by
      show X.mg x = none
      rw [hI.mg]
      exact M.blt x hx hg
    glo := fun x dd hx hg => by
      obtain ⟨hc, v, u, g1, g2, g3⟩ := M.glo x dd hx hg
      exact ⟨v, u, by show X.mg x = some u; rw [hI.mg]; exact g1, g2, fun m H => Rep.cl (B := B.of a e d) (B' := B) rfl rfl (g3 m H) hc⟩
    fn := fun x n z => by cases z
    tk := takesNo
    cls := ob0
    hand := .inr {
      isE := fun x ea w p p2 pos hb hx hg hn ha => by
        simp only [isBl, Bool.and_eq_true] at hb
        have hmi : (X.suite a ((a, oe) :: pn)).mg "isinstance" = none := by
          show X.mg _ = none
          rw [hI.mg]
          rcases noU with q | q
          · exact q
          · rw [show (gt.lookup ("isinstance" : Str)).isNone = true from hb.2] at q
            cases q
        obtain ⟨D, hD⟩ := ob0 x hx
        by_cases hsub : ∃ b, G.sub e.cls x = some b
        · obtain ⟨b, hsb⟩ := hsub
          obtain ⟨k1, k2⟩ := F.ofc e.cls x b hsb CA D h1 (by rw [← hI.mg]; exact hD)
          refine PE.imp (pe_callB (call_isX (X := X) (d := d) (by rw [hI.K]; exact k2) hz hf) (glX hb.1).1 hmi boot_isinstance (pa_cons ha (pa_cons (pe_glob (glX hg).1 hD (v := .ref D) rfl (glX hg).2) pa_nil) (starEach_ns (noStar_cons hn).1)) (by decide) (glX hb.1).2 (starEach_ns (noStar_cons hn).1) rfl) fun σ H Q ⟨m, ρ, S, rel, er, h⟩ =>
            step (ev (parH G e) w) rel er h fun v m1 H1 S1 dv e1 rel1 er1 r1 hq => ?_
          have hq : PostE (B.of a e d) (Rep (B.of a e d)) (match (generalizing := false) dv, some e with
            | .exn, some e => okB (G.sub e.cls x) S1
            | _, _ => .no) m1 H1 Q NoW := hq
          cases dv <;> first | exact hq.elim | skip
          cases r1 with
          | exn q =>
            cases q
            refine ⟨D, b, rfl, by rw [hI.K]; exact k1, ?_, ?_⟩
            · rcases h3 with ⟨rfl, _⟩ | ⟨dd, fs, rfl, he⟩
              · exact .inl rfl
              · refine .inr ⟨dd, fs, rfl, rel1.xd (dd, fs) ?_⟩
                show (dd, fs) ∈ (match e.fs, some dd with
                  | some fs, some dx => [(dx, fs)]
                  | _, _ => [])
                rw [he]
                exact List.mem_cons_self
            · have hq : PostE (B.of a e d) (Rep (B.of a e d)) (okB (G.sub e.cls x) S1) m1 H1 Q NoW := hq
              rw [hsb] at hq
              exact hq m1 H1 (.bl b) Ext.refl rel1 (.bl b)
        · refine PE.imp (pe_callB (r := fun _ _ _ => False) (fun _ _ _ _ _ _ _ _ _ z => z.elim) (glX hb.1).1 hmi boot_isinstance (pa_cons ha (pa_cons (pe_glob (glX hg).1 hD (v := .ref D) rfl (glX hg).2) pa_nil) (starEach_ns (noStar_cons hn).1)) (by decide) (glX hb.1).2 (starEach_ns (noStar_cons hn).1) rfl) fun σ H Q ⟨m, ρ, S, rel, er, h⟩ =>
            step (ev (parH G e) w) rel er h fun v m1 H1 S1 dv e1 rel1 er1 r1 hq => ?_
          have hq : PostE (B.of a e d) (Rep (B.of a e d)) (match (generalizing := false) dv, some e with
            | .exn, some e => okB (G.sub e.cls x) S1
            | _, _ => .no) m1 H1 Q NoW := hq
          cases dv <;> first | exact hq.elim | skip
          have hq : PostE (B.of a e d) (Rep (B.of a e d)) (okB (G.sub e.cls x) S1) m1 H1 Q NoW := hq
          cases hs2 : G.sub e.cls x with
          | none =>
            rw [hs2] at hq
            exact hq.elim
          | some b => exact (hsub ⟨b, hs2⟩).elim
      fld := fun f ea w pos hn ha => by
        by_cases hl : ∃ dd fs v dv, d = some dd ∧ e.fs = some fs ∧ fs.lookup f = some v ∧ fldOf f e = some dv
        · obtain ⟨dd, fs, v, dv, rfl, he, hv, hdv⟩ := hl
          have hx : XfC X.K CA ∧ PySem.W.findIn X.K (.ref CA) f = some none := by
            unfold exOk at hk
            rw [he] at hk
            have hk : (match G.ck e.cls with
              | some (.sup gs) => fs.all fun p => decide (p.1 ∈ gs)
              | _ => false) = true := hk
            split at hk
            · rename_i gs hg
              obtain ⟨g1, g2⟩ := F.fld e.cls gs hg CA h1
              rw [hI.K]
              exact ⟨g1, g2 f (of_decide_eq_true (List.all_eq_true.mp hk (f, v) (mem_of_lookup hv)))⟩
            · cases hk
          refine PE.imp (pe_xf hx.1 hx.2 hz hf ha (base_of hn)) fun σ H Q ⟨m, ρ, S, rel, er, h⟩ => step (ev (parH G e) w) rel er h fun u m1 H1 S1 du e1 rel1 er1 r1 hq => ?_
          have hq : PostE (B.of a e (some dd)) (Rep (B.of a e (some dd))) (match (generalizing := false) du, some e with
            | .exn, some e => okO (fldOf f e) S1
            | _, _ => .no) m1 H1 Q NoW := hq
          cases du <;> first | exact hq.elim | skip
          have hq : PostE (B.of a e (some dd)) (Rep (B.of a e (some dd))) (okO (fldOf f e) S1) m1 H1 Q NoW := hq
          rw [hdv] at hq
          cases r1 with
          | exn q =>
            cases q
            refine ⟨rfl, rfl, dd, fs, v, rfl, rel1.xd (dd, fs) ?_, hv, hq m1 H1 v Ext.refl rel1 ?_⟩
            · show (dd, fs) ∈ (match e.fs, some dd with
                | some fs, some dx => [(dx, fs)]
                | _, _ => [])
              rw [he]
              exact List.mem_cons_self
            · unfold fldOf at hdv
              rw [he] at hdv
              have hdv : (match fs.lookup f with
                | some v => (match D.ofV v with
                  | .exn => none
                  | d => some d)
                | none => none) = some dv := hdv
              rw [hv] at hdv
              have hdv : (match D.ofV v with
                  | .exn => none
                  | d => some d) = some dv := hdv
              cases v <;> cases hdv <;> first | exact .non | exact .bl _ | exact .int _ | exact .str _ | exact .ty _
        · refine ⟨fun pins s σ H Q I ⟨m, ρ, S, rel, er, hq⟩ => ?_⟩
          refine attr_of (base_of hn) (thn (ha.run pins s σ H (fun _ _ => False) I (step (ev (parH G e) w) rel er hq fun v m1 H1 S1 dv e1 rel1 er1 r1 hq => ?_)) fun u s1 ⟨_, _, _, _, z⟩ => z.elim)
          have hq : PostE (B.of a e d) (Rep (B.of a e d)) (match (generalizing := false) dv, some e with
            | .exn, some e => okO (fldOf f e) S1
            | _, _ => .no) m1 H1 Q NoW := hq
          cases dv <;> first | exact hq.elim | skip
          have hq : PostE (B.of a e d) (Rep (B.of a e d)) (okO (fldOf f e) S1) m1 H1 Q NoW := hq
          cases hv : fldOf f e with
          | none =>
            rw [hv] at hq
            exact hq.elim
          | some dv =>
            refine (hl ?_).elim
            rcases h3 with ⟨_, he⟩ | ⟨dd, fs, rfl, he⟩
            · unfold fldOf at hv
              rw [he] at hv
              cases hv
            · cases hv2 : fs.lookup f with
              | none =>
                have hv3 := hv
                unfold fldOf at hv3
                rw [he] at hv3
                have hv3 : (match fs.lookup f with
                  | some v => (match D.ofV v with
                    | .exn => none
                    | d => some d)
                  | none => none) = some dv := hv3
                rw [hv2] at hv3
                cases hv3
              | some v => exact ⟨dd, fs, v, dv, rfl, he, hv2, hv⟩ }
    hc := fun z => by cases z }
end
end Pi

set_option Elab.async false
set_option linter.all false
set_option maxRecDepth 100000
set_option maxHeartbeats 4000000
namespace Pi
open PySem L2 PyProof.Rows PiX

theorem takes_len {X : Cx} {W : WX} (t : Takes X W) : Takes X (fun c d σ H => σ.length = X.N.length → W c d σ H) := fun u s' ⟨a, B, sI, pins, σ, H, cls, d, e, I, nb, up, sky, na, os, ag, w⟩ =>
  t u s' ⟨a, B, sI, pins, σ, H, cls, d, e, I, nb, up, sky, na, os, ag, w I.len⟩
abbrev DRt (Q : VK) : Ends := { nx := fun _ _ => False, rt := Q, bk := fun _ _ => False, ct := fun _ _ => False }
/-- what an error of the work must lead to -/
def hWish (B : Bd) (G : Prg) (t : Tdf) (Q : VK) : XK := fun cls d H => ∃ e CA, B.mg e.cls = some (.ref CA) ∧ cls = .ref CA ∧ ((d = none ∧ e.fs = none) ∨ ∃ dd fs, d = some dd ∧ e.fs = some fs) ∧ exOk G e = true ∧ G.sub e.cls t.cls = some true ∧
  ∀ a, Rel (B.of a e d) [] H [] ∧ PostE (B.of a e d) (RFl (B.of a e d)) (exs (parH G e) t.body ((List.replicate t.sl none).set t.ie (some .exn)) []) [] H (endQ (DRt Q)) NoW
def TTd (B : Bd) (G : Prg) (t : Tdf) : (XK → Hp → VK → Prop) → Hp → VK → Prop := fun tl H Q => tl (hWish B G t Q) H (fun _ H1 => Q t.ret H1)
/-- how its suite is compiled -/
def csT (N : List Str) (st : Stmt) (gt : List (Str × GK)) : Cs := { N := N, sc := defScope st, fnc := [], calm := false, G := gt, tk := false, lm := false }
section
variable {B : Bd} {G : Prg} {gt : List (Str × GK)} {P : Program}
theorem gives (M : ModF B G gt P) (F : ExF B G) {X : Cx} (hI : Is X B) {Ng : List Str} {x a en q ret : Str} {st : Stmt} {g CS : Addr} {cdg : Value} {t : Tdf} {b₀ : Stmt} {suite : List Stmt} {j : Nat} {p1 p2 p3 p4 p5 p6 p7 p8 : Pos} (hr : Room 1 X.A)
    (hge : (defScope st).names.lookup t.cls = some .globalImplicit) (hde : (t.cls == ("__debug__" : Str)) = false) (hCS : B.mg t.cls = some (.ref CS)) (hnd : Ng.Nodup) (hsl : Ng.length = t.sl) (h0 : 0 < Ng.length) (hie : Ng[t.ie]? = some en) (hloc : (defScope st).names.lookup en = some .local)
    (hret : t.ret = .str ret) (hc : cSs 60 (csT Ng st gt) (b₀ :: suite) = some t.body) :
    LamX.GivesTo X Ng x (defScope st) g cdg [.Try [.Expr (.Call (.Name a p1) [] [] p2) p3] [.ExceptHandler (some (.Name t.cls p4)) (some en) (b₀ :: suite) p7] [] [] p8, .Return (some (.Constant (.str ret) j p5)) p6] a q (TTd B G t) := by
  intro f c' s H Q tl act hcd h
  let Xg : Cx := (cxOf C8.CX0 X.prog X.w X.K X.mg X.base Ng x (defScope st) g cdg X.A X.stack s H C8.E0).nox
  have hgl : Gl Xg t.cls := hge
  have hIg : Is Xg B := ⟨hI.K, hI.mg, (hr.deeper (envOfC x (defScope st) s.heap.objs.size g cdg)).un |> fun z => by
    show (X.A.deeper (envOfC x (defScope st) s.heap.objs.size g cdg)).units + 200 < _
    omega⟩
  have hst : (L2.start Ng [V.ref f])[0]? = some (some (V.ref f)) := by
    unfold L2.start
    rfl
  refine ⟨_, pss_cons (ps_try_as (X := Xg) (c := .ref CS) (i := t.ie) (Wout := fun _ _ _ _ => False)
      (tb := fun W D σ H => ∃ Ech : XK, (∀ cls d σ' H', Ech cls d H' → σ'.length = Ng.length → W cls d σ' H') ∧ σ[0]? = some (some (.ref f)) ∧ H c' = some (LamX.CodeO c' q) ∧ tl Ech H (fun _ H1 => D.nx σ H1))
      (ts := fun a cls d D σ H => ∃ e CA, B.mg e.cls = some (.ref CA) ∧ cls = .ref CA ∧ ((d = none ∧ e.fs = none) ∨ ∃ dd fs, d = some dd ∧ e.fs = some fs) ∧ exOk G e = true ∧ rS (B.of a e d) NoW (exs (parH G e) t.body) D σ H)
      rfl rfl hnd hie hloc ⟨hgl, hde, .inl (by show X.mg _ = _; rw [hI.mg]; exact hCS)⟩ LamX.takes0 (fun W pn xe tk _ => ?_) (fun a oe cls d pn hz hf => ?_)) (pss_one (ps_ret pe_str)), ?_⟩
  · refine ⟨fun pins s' σ H' D I h' => ?_⟩
    obtain ⟨Ech, hW, h1, h2, h3⟩ := h'
    have hp := act (fun c d σ H => σ.length = Ng.length → W c d σ H) pn xe Ech p1 p2 (takes_len tk) fun cls d σ' H' he hl => hW cls d σ' H' he hl
    exact (pss_one (ps_expr (pos := p3) hp)).run pins s' σ H' D I ⟨h1, h2, h3⟩
  · refine ⟨fun pins s' σ H' D I h' => ?_⟩
    obtain ⟨e, CA, g1, g2, g3, g4, g5⟩ := h'
    exact ((soundS (B.of a e d) 60).ss hc (suite_ok M F (X := Xg) (C := csT Ng st gt) hIg rfl rfl hnd rfl hz hf g1 g2 g3 g4)).run pins s' σ H' D I g5
  · refine ⟨hWish B G t Q, fun cls d σ' H' he hl => ?_, hst, hcd, ?_⟩
    · obtain ⟨e, CA, g1, g2, g3, g4, g5, g6⟩ := he
      refine ⟨true, by rw [g2]; show PySem.W.exmOne X.K _ _ = _; rw [hI.K]; exact F.exm _ _ g5 _ _ g1 hCS, fun _ a ha => ?_, fun z => by cases z⟩
      refine ⟨e, CA, g1, g2, g3, g4, [], (List.replicate t.sl none).set t.ie (some .exn), [], (g6 a).1, ?_, ?_⟩
      · refine EnvR.set ⟨by rw [hl, hsl, List.length_replicate], fun i d h => ?_⟩ t.ie (.exn rfl)
        rw [List.getElem?_replicate] at h
        split at h <;> cases h
      · refine PostE.mono (g6 a).2 (fun b H1 hb => ?_) fun _ _ _ z => z
        cases b with
        | rt v => exact hb
        | _ => exact hb.elim
    · unfold TTd at h
      rw [hret] at h
      exact h
/-- from the answer -/
theorem told_read {t : Tdf} {x : Str} (hT : G.told x = some t) {w : E} {Pr : Par} (hp : Pr.told = toldR G) {W : WXH} {σ : L2.St} {H : Hp} {Q : VK} (hret : ∀ m H, Rep B m H t.ret (D.ofV t.ret)) (h : rE B Pr W (.told x w) σ H Q) :
    LamX.tLam B.T (TTd B G t) (fun E => rE B Pr E w) σ H Q := by
  obtain ⟨m, ρ, S, rel, er, h⟩ := h
  refine ⟨rel.tb, fun H1 eN T1 => ?_⟩
  have e1 : Ext m H m H1 := ⟨List.prefix_rfl, fun a o _ h n => eN a o h n, fun a o h _ _ => h, fun a _ ⟨vs, h⟩ => ⟨vs, eN a _ h fun ps z => by cases z⟩⟩
  have rel1 : Rel B m H1 S := ⟨rel.len, rel.nd, fun n a o h1 h2 => (rel.ob n a o h1 h2).ext rel e1 (by
    rcases rel.kind (List.mem_of_getElem? h1) with ⟨vs, h⟩ | ⟨i, j, h⟩
    · rw [h]
      exact eN a _ h fun ps z => by cases z
    · rw [h]
      exact eN a _ h fun ps z => by cases z), T1, fun p hp => eN _ _ (rel.xd p hp) fun ps z => by cases z⟩
  refine ⟨m, ρ, S, rel1, er.ext rel e1, ?_⟩
  have h : PostE B (Rep B) (Pr.told x (ev Pr w ρ S)) m H Q W := h
  rw [hp] at h
  unfold toldR at h
  rw [hT] at h
  cases hw : ev Pr w ρ S with
  | ok v S1 =>
    rw [hw] at h
    intro m2 H2 b e2 rel2 _
    exact h m2 H2 t.ret (e1.trans e2) rel2 (hret _ _)
  | er e S1 =>
    rw [hw] at h
    have h : PostE B (Rep B) (if (decide (G.sub e.cls t.cls = some true) && exOk G e) = true then (match exs (parH G e) t.body ((List.replicate t.sl none).set t.ie (some .exn)) [] with
      | .ok (.rt d) _ => if closed d = true then .ok d S1 else .no
      | _ => .no) else .no) m H Q W := h
    by_cases hk : (decide (G.sub e.cls t.cls = some true) && exOk G e) = true
    · rw [if_pos hk] at h
      simp only [Bool.and_eq_true, decide_eq_true_eq] at hk
      intro m2 H2 cls dd e2 rel2 he
      obtain ⟨CA, g1, g2, g3⟩ := he.dict
      refine ⟨e, CA, g1, g2, ?_, hk.2, hk.1, fun a => ?_⟩
      · rcases g3 with g3 | ⟨dx, fs, g4, g5, g6⟩
        · exact .inl g3
        · exact .inr ⟨dx, fs, g4, g5⟩
      · have rel0 : Rel (B.of a e dd) [] H2 [] := ⟨rfl, List.nodup_nil, fun n a o h => by simp at h, rel2.tb, fun p hp => by
          rcases g3 with ⟨rfl, g4⟩ | ⟨dx, fs, rfl, g5, g6⟩
          · have hp : p ∈ (match e.fs, (none : Option Addr) with
              | some fs, some dx => [(dx, fs)]
              | _, _ => []) := hp
            rw [g4] at hp
            cases hp
          · have hp : p ∈ (match e.fs, some dx with
              | some fs, some dx => [(dx, fs)]
              | _, _ => []) := hp
            rw [g5] at hp
            rw [List.mem_singleton.mp hp]
            exact g6⟩
        refine ⟨rel0, ?_⟩
        cases hx : exs (parH G e) t.body ((List.replicate t.sl none).set t.ie (some .exn)) [] with
        | ok fl S2 =>
          rw [hx] at h
          cases fl with
          | rt d =>
            have h : PostE B (Rep B) (if closed d = true then .ok d S1 else .no) m H Q W := h
            by_cases hcl : closed d = true
            · rw [if_pos hcl] at h
              intro m3 H3 b e3 rel3 r3
              cases b with
              | rt v =>
                have r3 : Rep (B.of a e dd) m3 H3 v d := r3
                show Q v H3
                exact h m2 H3 v ((e1.trans e2).trans (e3.frame rel2)) (rel2.frame e3 rel3.tb) (Rep.cl (B := B) (B' := B.of a e dd) rfl rfl r3 hcl)
              | _ => exact r3.elim
            · rw [if_neg hcl] at h
              exact h.elim
          | _ => exact h.elim
        | er _ _ =>
          rw [hx] at h
          exact h.elim
        | no =>
          rw [hx] at h
          exact h.elim
    · rw [if_neg hk] at h
      exact h.elim
  | no =>
    rw [hw] at h
    exact h.elim
end
end Pi

set_option Elab.async false
set_option linter.all false
set_option maxRecDepth 100000
set_option maxHeartbeats 4000000
namespace Pi
open PySem L2 PyProof.Rows PiX

/-- what is known of the def that tells -/
structure TolF (B : Bd) (gt : List (Str × GK)) (x : Str) (t : Tdf) : Prop where
  ex : ∃ (st : Stmt) (N : List Str) (a en ret : Str) (g CS : Addr) (fd : FuncData) (b₀ : Stmt) (suite : List Stmt) (j : Nat) (p1 p2 p3 p4 p5 p6 p7 p8 : Pos), Fun B.K x x st g fd ∧ B.mg x = some (.ref g) ∧ Binds B.K fd [a] [] ∧ FnScope N [a] (defScope st) ∧ N.length = t.sl ∧ N[t.ie]? = some en ∧ (defScope st).names.lookup en = some .local ∧
    (defScope st).names.lookup t.cls = some .globalImplicit ∧ (t.cls == ("__debug__" : Str)) = false ∧ B.mg t.cls = some (.ref CS) ∧ plainN a = true ∧ t.ret = .str ret ∧ cSs 60 (csT N st gt) (b₀ :: suite) = some t.body ∧
    defBody st = [.Try [.Expr (.Call (.Name a p1) [] [] p2) p3] [.ExceptHandler (some (.Name t.cls p4)) (some en) (b₀ :: suite) p7] [] [] p8, .Return (some (.Constant (.str ret) j p5)) p6]
/-- what is known of all that tell -/
def TolA (B : Bd) (G : Prg) (gt : List (Str × GK)) : Prop := ∀ x, gt.lookup x = some .told → ∃ t, G.told x = some t ∧ TolF B gt x t
section
variable {B : Bd} {G : Prg} {gt : List (Str × GK)} {P : Program} {w : World} {base : Heap}
theorem law_okc (M : ModF B G gt P) (F : ExF B G) (T : TolA B G gt) {n : Nat} {st : Stmt} {N ps : List Str} {x : Str} {f c Pt : Addr} {A : Around} {outer : List PySem.Env} {s : Shared} {H : Hp} {E : XK} (S : FnScope N ps (defScope st))
    (hr : Room (3 * n + 2) (A.deeper (envOfC x (defScope st) s.heap.objs.size f (.ref c)))) (TB : LamX.TabB base B.mg c Pt) (hT : B.T = [(Pt, (x ++ ".<locals>.") ++ "<lambda>")]) :
    Okc (cxOf (L2.CX P w) P w B.K B.mg base N x (defScope st) f (.ref c) A outer s H E) B (csD N st gt true) (parN G n) E := by
  have h0 := ctx_ok (w := w) (base := base) (x := x) (f := f) (cdv := .ref c) (outer := outer) (s := s) (H := H) (E := E) (lm := false) M (fns_ok M n) S hr (fun z => nomatch z)
  have ob := h0.toOkc.toOkb
  refine ⟨⟨ob.is, ob.N, ob.nd, ob.sc, ob.cm, ob.pc, ob.fnc, ob.blt, ob.glo, ob.fn, ob.tk, ob.cls, .inl rfl, ob.hc⟩, fun _ y params body scope lpos p pos we hy hg hl ha hbody => ?_⟩
  obtain ⟨t, ht, st', N', a, en, ret, g, CS, fd, b₀, suite, j, p1, p2, p3, p4, p5, p6, p7, p8, Fu, hm, hb, Sg, hsl, hie, hen, hcl, hcd, hCS, hpa, hret, hc, hbd⟩ := T y hy
  obtain ⟨oc, od, kV, doc, pm, an, cdv, ct, osl, rfl, lk, hcg⟩ := Fu.ex
  obtain ⟨p0, a0, v0, k0, kd, kw, df⟩ := params
  have h0N : N'[0]? = some a := by
    have q := Sg.pre
    cases N' with
    | nil => cases q
    | cons z r =>
      have q : z :: [] = [a] := q
      cases q
      rfl
  have hN0 : 0 < N'.length := (List.getElem?_eq_some_iff.mp h0N).1
  unfold noArgs at ha
  split at ha
  · rename_i q
    cases q
    rw [hbd] at lk
    simp only [plainN, Bool.and_eq_true, Bool.not_eq_true'] at hpa
    refine PE.imp (LamX.pe_lamcall (T := B.T) (TT := TTd B G t) (k := 3 * n) (t := fun E => rE B (parN G n) E we) (P := Pt) (c := c) (ob.gl hg).1 hm Fu.kp lk hcg (by rw [hbd] at hb; exact hb) Sg h0N (Sg.par a List.mem_cons_self |>.elim .inl fun z => .inr (.inl z))
      (gives M F ob.is (hr.mono (by omega)) hcl hcd hCS Sg.nd hsl hN0 hie hen hret hc) TB rfl (by rw [hT]; exact List.mem_cons_self) (fun q hq _ => by
        rw [hT] at hq
        rw [List.mem_singleton.mp hq]
        rfl) hr (LamX.lamS_by hl) rfl (fun _ _ _ _ _ => rfl) (fun A' outer' s' H' E' f' c' hr' => ?_) (isGl_dbg hg) hpa.1.1 hpa.1.2) fun σ H' Q h => told_read ht rfl (fun m H => by rw [hret]; exact .str _) h
    refine hbody _ _ {
      is := ⟨rfl, rfl, by
        have := hr'.un
        show (A'.deeper (LamX.lamEnv (cxOf (L2.CX P w) P w B.K B.mg base N x (defScope st) f (.ref c) A outer s H E) scope s'.heap.objs.size f' c')).units + 200 < _
        omega⟩
      N := rfl
      nd := S.nd
      sc := rfl
      cm := fun _ => rfl
      pc := fun _ => rfl
      fnc := fun x hx => nomatch hx
      blt := M.blt
      glo := ob.glo
      fn := fun z k _ hz => by
        obtain ⟨d, h1, rfl, h2⟩ := M.fns z k hz
        obtain ⟨f', fd', ps', h3, h4, h5, h6⟩ := fns_ok (w := w) (base := base) M n z d hz h1 h2
        exact ⟨f', fd', ps', 3 * n, h3, hr', h4, h5, h6⟩
      tk := takes_of rfl rfl rfl rfl
      cls := ob.cls
      hand := .inl rfl
      hc := fun _ => rfl }
  · cases ha
/-- the law's def -/
theorem law_ok (M : ModF B G gt P) (F : ExF B G) (T : TolA B G gt) {n : Nat} {st : Stmt} {N : List Str} {a x : Str} {f c Pt : Addr} {d : Dfn} {kV doc pm ct oc : Value} {an od : Option Addr} {osl : Array (Option Value)} (S : FnScope N [a] (defScope st))
    (lk : B.K.lookup f = some ⟨oc, od, .func (PySem.W.fnOf x x (defArgs st) (defBody st) (defScope st) .none kV doc pm an (.ref c) ct), osl⟩) (hcd : PySem.W.codeIn B.K (.ref c) x = true)
    (TB : LamX.TabB base B.mg c Pt) (hT : B.T = [(Pt, (x ++ ".<locals>.") ++ "<lambda>")]) (hc : cSs 60 (csD N st gt true) (defBody st) = some d.body) (hsl : N.length = d.sl) (hd1 : d.n = 1) (hd : G.fns x = some d) :
    FnOk P w B.K B.mg base (L2.CX P w) (3 * n + 3) f (PySem.W.fnOf x x (defArgs st) (defBody st) (defScope st) .none kV doc pm an (.ref c) ct) [a] (spC B (parN G (n + 1)) x 1) := by
  refine fn_of lk hcd S (fun vs H Q E ⟨m, S, ds, _, r, hl, h⟩ => by rw [r.length, hl]; rfl) fun A outer s H vs Q E hr ⟨m, S1, ds, rel, r, hl, h⟩ => ?_
  have okc := law_okc (w := w) (base := base) (x := x) (f := f) (outer := outer) (s := s) (H := H) (E := E) M F T S hr TB hT
  refine ⟨_, (soundS B 60).ss hc (ctx_ok M (fns_ok M n) S hr fun _ => okc), ?_⟩
  have hle : d.n ≤ d.sl := by
    rw [hd1, ← hsl]
    have h1 := congrArg List.length S.pre
    rw [List.length_take] at h1
    show 1 ≤ _
    have h1 : min 1 N.length = 1 := h1
    omega
  exact (callN_post hd hsl hle rel r h).2
end
end Pi

set_option Elab.async false
set_option linter.all false
set_option maxRecDepth 100000
set_option maxHeartbeats 4000000
namespace Pi
open PySem L2 PyProof.Rows PiX
abbrev Frag := PySem.W.Frag
/-! ### a written value -/
def relF (u : Value) (d : D) : Option V := match u, d with
  | .none, .non => some .non
  | .bool b, .bl c => if b = c then some (.bl b) else none
  | .int i _, .int j => if i = j then some (.int i) else none
  | .str x _, .str y => if x = y then some (.str x) else none
  | _, _ => none
theorem relF_ok {u : Value} {d : D} {v : V} (h : relF u d = some v) : RelV v u ∧ ∀ (B : Bd) m H, Rep B m H v d := by
  unfold relF at h
  split at h
  · cases h
    exact ⟨rfl, fun _ _ _ => .non⟩
  · split at h
    · rename_i e
      cases h
      subst e
      exact ⟨rfl, fun _ _ _ => .bl _⟩
    · cases h
  · split at h
    · rename_i e
      cases h
      subst e
      exact ⟨⟨_, rfl⟩, fun _ _ _ => .int _⟩
    · cases h
  · split at h
    · rename_i e
      cases h
      subst e
      exact ⟨⟨_, rfl⟩, fun _ _ _ => .str _⟩
    · cases h
  · cases h
def relFs : List Value → List D → Option (List V)
  | [], [] => some []
  | u :: us, d :: ds => (match relF u d, relFs us ds with
    | some v, some vs => some (v :: vs)
    | _, _ => none)
  | _, _ => none
theorem relFs_ok : ∀ {us : List Value} {ds : List D} {vs : List V}, relFs us ds = some vs → Vals vs us ∧ ∀ (B : Bd) m H, Reps B m H vs ds
  | [], [], _, h => by
    cases h
    exact ⟨.nil, fun _ _ _ => .nil⟩
  | u :: us, d :: ds, vs, h => by
    unfold relFs at h
    cases h1 : relF u d with
    | none => rw [h1] at h; cases h
    | some v =>
      cases h2 : relFs us ds with
      | none => rw [h1, h2] at h; cases h
      | some ws =>
        rw [h1, h2] at h
        cases h
        exact ⟨.cons (relF_ok h1).1 (relFs_ok h2).1, fun B m H => .cons ((relF_ok h1).2 B m H) ((relFs_ok h2).2 B m H)⟩
  | [], _ :: _, _, h => by cases h
  | _ :: _, [], _, h => by cases h
/-- a module's constant: none, truth, number, text, tuple of such -/
def relG (K : Frag) (u : Value) (d : D) : Bool := match u, d with
  | .ref a, .tup ds => (match K.lookup a with
    | some ⟨.type c, _, .seq its _, _⟩ => decide (c = "tuple") && (decide (its.size ≤ sizeLine) && (relFs its.toList ds).isSome)
    | _ => false)
  | _, _ => (relF u d).isSome
theorem relG_ok {K : Frag} {u : Value} {d : D} (h : relG K u d = true) : ∃ v, RelV v u ∧ ∀ (B : Bd) m H, B.K = K → Rep B m H v d := by
  unfold relG at h
  split at h
  · rename_i a ds
    split at h
    · rename_i c _ its n sl hl
      simp only [Bool.and_eq_true, decide_eq_true_eq] at h
      obtain ⟨vs, hv⟩ := Option.isSome_iff_exists.mp h.2.2
      obtain ⟨r1, r2⟩ := relFs_ok hv
      refine ⟨.ref a, rfl, fun B m H hK => .tup ?_ (r2 B m H)⟩
      rw [hK]
      exact .inr ⟨_, its, n, hl, congrArg Value.type h.1, rfl, h.2.1, r1⟩
    · cases h
  · obtain ⟨v, hv⟩ := Option.isSome_iff_exists.mp h
    exact ⟨v, (relF_ok hv).1, fun B m H _ => (relF_ok hv).2 B m H⟩

/-! ### a law's module -/
structure FnI where
  x : Str
  st : Stmt
  N : List Str
  ps : List Str
  d : Dfn
structure ClI where
  x : Str
  fs : List Str
  st : Stmt
  qual : Str
/-- the tables of a law -/
structure Mdl where
  P : Program
  fl : List FnI
  law : FnI
  tx : Str
  tst : Stmt
  tN : List Str
  tps : List Str
  td : Tdf
  pl : List Str
  cl : List ClI
  vals : List (Str × D)
  subs : List ((Str × Str) × Bool)
  fuel : Nat
def Mdl.gt (M : Mdl) : List (Str × GK) := M.fl.map (fun i => (i.x, GK.fn i.d.n)) ++ ((M.tx, GK.told) :: (M.pl.map (fun x => (x, GK.cls 0)) ++ (M.cl.map (fun i => (i.x, GK.cls i.fs.length)) ++ M.vals.map fun p => (p.1, GK.val))))
def Mdl.G (M : Mdl) : Prg where
  fns := fun x => if x = M.law.x then some M.law.d else (M.fl.map fun i => (i.x, i.d)).lookup x
  told := fun x => if x = M.tx then some M.td else none
  glo := fun x => M.vals.lookup x
  ck := fun x => (M.pl.map (fun x => (x, Ck.plain)) ++ M.cl.map fun i => (i.x, Ck.sup i.fs)).lookup x
  sub := fun c x => M.subs.lookup (c, x)
  fuel := M.fuel
/-! #### what is looked at -/
def defD (i : FnI) : He.DefD := ⟨(i.x, none), i.x, i.x, defArgs i.st, defBody i.st, defScope i.st, [], []⟩
def Mdl.fn (M : Mdl) : List He.DefD := defD M.law :: ⟨(M.tx, none), M.tx, M.tx, defArgs M.tst, defBody M.tst, defScope M.tst, [], []⟩ :: M.fl.map defD
def Mdl.fa (M : Mdl) : List He.Fa := (M.fl.map (fun i => i.x) ++ [M.law.x, M.tx] ++ M.pl ++ M.cl.map fun i => i.x).map He.Fa.glo ++ M.pl.map He.Fa.exc ++ (("super" : Str) :: allB.filter fun x => (M.gt.lookup x).isNone).map He.Fa.free
def oexB (K : Frag) (C : Addr) : Bool := (match K.lookup C with
  | some ⟨.type c, _, .cls cd, sl⟩ => (match cd.mro, sl.toList with
    | .ref C' :: bm, [_, _, _, _, some (.builtin n), _] => decide (c = "type") && (decide (C' = C) && (decide (n = "ValueError.__new__") && (decide (cd.hasDict = true) && (decide (cd.hasDel = false) && PySem.HandSPX.refsVE bm))))
    | _, _ => false)
  | _ => false) && (He.eqO (PySem.W.findIn K (.ref C) "__setattr__") (some (some (.builtin "object.__setattr__"))) && (decide (PySem.W.subIn K (.ref C) (.type "BaseException") = some true) && (decide (PySem.W.typeIn K (.ref C) = some (.type "type")) && PySem.W.keepIn K (.ref C))))
theorem oexB_ok {K : Frag} {C : Addr} (h : oexB K C = true) : OexC K C := by
  unfold oexB at h
  simp only [Bool.and_eq_true, decide_eq_true_eq] at h
  obtain ⟨h1, h2, h3, h4, h5⟩ := h
  refine ⟨?_, He.eqO_ok h2, h3, h4, h5⟩
  split at h1
  · rename_i c dd cd sl hl
    split at h1
    · rename_i C' bm k0 k1 k2 k3 n k5 hm hs
      simp only [Bool.and_eq_true, decide_eq_true_eq] at h1
      obtain ⟨rfl, rfl, rfl, e4, e5, e6⟩ := h1
      obtain ⟨nm, bs, mro, ns, qn, hd, sn, sub, ab, col, del⟩ := cd
      dsimp only at hm e4 e5
      subst hm e4 e5
      obtain ⟨l⟩ := sl
      dsimp only at hs
      subst hs
      exact ⟨nm, qn, ns, bs, bm, sn, sub, ab, col, dd, k0, k1, k2, k3, k5, hl, e6⟩
    · cases h1
  · cases h1
def excCB (K : Frag) (C : Addr) : Bool := PySem.W.hasDictIn K C && (He.eqO (PySem.W.findIn K (.ref C) "__getattribute__") (some (some (.builtin "BaseException.__getattribute__"))) && (He.eqO (PySem.W.findIn K (.ref C) "__getattr__") (some none) && (decide (PySem.W.subIn K (.ref C) (.type "BaseException") = some true) &&
  (He.eqO (PySem.W.findIn K (.ref C) "__class__") (some (some (.builtin "object.__class__"))) && (He.eqO (PySem.W.specialIn K (.builtin "object.__class__") "__get__") (some (some (.builtin "getset_descriptor.__get__"))) && (decide (PySem.W.takesIn K (.builtin "object.__class__") = some true) && decide (PySem.W.mroIn K C (.type "object") = some true)))))))
theorem excCB_ok {K : Frag} {C : Addr} (h : excCB K C = true) : ExcC K C := by
  unfold excCB at h
  simp only [Bool.and_eq_true, decide_eq_true_eq] at h
  obtain ⟨h1, h2, h3, h4, h5, h6, h7, h8⟩ := h
  exact ⟨He.eqO_ok h2, He.eqO_ok h3, h4, h1, He.eqO_ok h5, He.eqO_ok h6, h7, h8⟩
abbrev InV : Type := Option (Str × Arguments × FuncBody × Scope × Addr × List Str × Value × Addr)
def initA (K : Frag) (x : Str) : Addr := He.ma K (He.ga K x) "__init__"
def inObs (K : Frag) (x : Str) : InV := match K.lookup (initA K x) with
  | some ⟨_, _, .func fd, _⟩ => some (fd.qualname, fd.params, fd.body, fd.scope, fd.globals, fd.closure.map (·.1), fd.defaults, fd.builtins)
  | _ => none
def ClI.val (i : ClI) : InV := some (i.qual, defArgs i.st, .stmts (defBody i.st), defScope i.st, mainGlobals, ["__class__"], .none, builtinsNs)
def supB (P : Program) (K : Frag) (i : ClI) : Bool := oexB K (He.ga K i.x) && (He.eqO (PySem.W.findIn K (.ref (He.ga K i.x)) "__init__") (some (some (.ref (initA K i.x)))) && (decide (PySem.W.typeIn K (.ref (initA K i.x)) = some (.type "function")) && ((match K.lookup (initA K i.x) with
  | some ⟨_, _, .func fd, _⟩ => (match fd.code, fd.closure with
    | .ref cda, [(_, cc)] => PySem.W.codeIn K (.ref cda) i.qual && ((match K.lookup cda with
      | some ⟨_, _, .fields vs, _⟩ => (match (vs[2]? : Option Value) with
        | some (.str fl _) => (P.main.file : Str) == fl
        | _ => false)
      | _ => false) && (match K.lookup cc with
        | some ⟨_, _, .cell (some (.ref C')), _⟩ => decide (C' = He.ga K i.x)
        | _ => false))
    | _, _ => false)
  | _ => false) && (decide (PySem.W.mroIn K (He.ga K i.x) (.ref (He.ga K i.x)) = some true) && (He.eqO (PySem.W.ks_superIn K (He.ga K i.x) (He.ga K i.x) "__init__") (some (some (.builtin "ValueError.__init__"))) && (decide (PySem.W.subIn K (.ref (He.ga K i.x)) (.type "ValueError") = some true) &&
    (He.eqO (PySem.W.nsIn K cStatics "thirdparty.any") (some none) && (L2.xfB K (He.ga K i.x) && i.fs.all fun f => He.eqO (PySem.W.findIn K (.ref (He.ga K i.x)) f) (some none)))))))))
def valB (K : Frag) (p : Str × D) : Bool := closed p.2 && (match PySem.W.nsIn K mainGlobals p.1 with
  | some (some u) => relG K u p.2
  | _ => false)
def subB (K : Frag) (p : (Str × Str) × Bool) : Bool := decide (PySem.W.kitOne K (.ref (He.ga K p.1.1)) (.ref (He.ga K p.1.2)) = some p.2) && (excCB K (He.ga K p.1.1) && (!p.2 || decide (PySem.W.exmOne K (.ref (He.ga K p.1.1)) (.ref (He.ga K p.1.2)) = some true)))
def Mdl.ex (M : Mdl) (K : Frag) : Bool := M.vals.all (valB K) && (M.subs.all (subB K) && M.cl.all (supB M.P K))
/-! #### the Hook -/
def addrs (g : Addr → Option Obj) (n : Nat) : List Addr := He.asD g n ++ [cStatics]
def obsP (M : Mdl) (n : Nat) (g : Addr → Option Obj) : He.AlX × List InV :=
  let K := He.frT g (addrs g n)
  ((He.obsT M.fa M.fn [] K, M.ex K && He.tabsB g [(M.law.x, none)] K), M.cl.map fun i => inObs K i.x)
def valP (M : Mdl) (w : World) : He.AlX × List InV := (He.valX M.fn [] w, M.cl.map ClI.val)
structure SaysP (M : Mdl) (w : World) (h : Heap) (K : Frag) : Prop where
  x : He.SaysX M.fa M.fn [] [(M.law.x, none)] M.ex w h K
  ini : (M.cl.map fun i => inObs K i.x) = M.cl.map ClI.val
theorem saysP_of {M : Mdl} {n : Nat} {w : World} {h : Heap} (e : obsP M n h.get? = valP M w) : SaysP M w h (He.frT h.get? (addrs h.get? n)) := by
  have e0 : (He.obsT M.fa M.fn [] (He.frT h.get? (addrs h.get? n)), M.ex (He.frT h.get? (addrs h.get? n)) && He.tabsB h.get? [(M.law.x, none)] (He.frT h.get? (addrs h.get? n))) = He.valX M.fn [] w := congrArg (fun z : He.AlX × List InV => z.1) e
  have e1 : He.obsT M.fa M.fn [] (He.frT h.get? (addrs h.get? n)) = He.valT M.fn [] w := congrArg (fun z : He.AlX => z.1) e0
  have e2 : (M.ex (He.frT h.get? (addrs h.get? n)) && He.tabsB h.get? [(M.law.x, none)] (He.frT h.get? (addrs h.get? n))) = true := congrArg (fun z : He.AlX => z.2) e0
  obtain ⟨h1, h2⟩ := Bool.and_eq_true_iff.mp e2
  have key : ∀ p ∈ [(M.law.x, (none : Option Str))], PySem.W.codeHdIn (He.frT h.get? (addrs h.get? n)) (He.cT (He.frT h.get? (addrs h.get? n)) p).1 (He.cT (He.frT h.get? (addrs h.get? n)) p).2 = true ∧ ∃ o, h.get? (He.cT (He.frT h.get? (addrs h.get? n)) p).2 = some o ∧ He.emptyTab o = true := fun p hp => by
    obtain ⟨h3, h4⟩ := Bool.and_eq_true_iff.mp (List.all_eq_true.mp h2 p hp)
    refine ⟨h3, ?_⟩
    split at h4
    · rename_i o ho
      exact ⟨o, ho, h4⟩
    · cases h4
  refine ⟨⟨e1, h1, fun p hp => (key p hp).1, fun p hp => ?_, fun p hp => ?_⟩, congrArg (fun z : He.AlX × List InV => z.2) e⟩
  · obtain ⟨_, o, q, z⟩ := key p hp
    exact He.frT_none q z
  · obtain ⟨_, o, q, z⟩ := key p hp
    rw [q, He.emptyTab_eq z]
def hookP (M : Mdl) (n : Nat) : PySem.W.Hook where
  α := He.AlX × List InV
  obs := fun s => obsP M n s.heap.get?
  val := fun w => valP M w
  says := fun w h => ∃ K : Frag, K.In h ∧ SaysP M w h K
  of := fun _ _ e => ⟨_, He.frT_in, saysP_of e⟩
  keeps := fun _ _ _ ⟨K, hK, c⟩ k => ⟨K, PySem.W.Frag.In.keeps hK k, ⟨⟨c.x.t, c.x.more, c.x.hd, c.x.out, fun p hp => k _ _ (c.x.empty p hp)⟩, c.ini⟩⟩
theorem obsP_eq {M : Mdl} {n : Nat} {g : Addr → Option Obj} {s : Shared} (h : ∀ a, g a = s.heap.get? a) : obsP M n g = (hookP M n).obs s := by
  have e : g = s.heap.get? := funext h
  rw [e] <;> rfl
end Pi

set_option Elab.async false
set_option linter.all false
set_option maxRecDepth 100000
set_option maxHeartbeats 4000000
namespace Pi
open PySem L2 PyProof.Rows PiX
/-! ### what is plain of the text -/
structure FnS (gt : List (Str × GK)) (lm : Bool) (i : FnI) : Prop where
  sc : FnScope i.N i.ps (defScope i.st)
  nN : i.N.length = i.d.sl
  nP : i.ps.length = i.d.n
  c : cSs 60 (csD i.N i.st gt lm) (defBody i.st) = some i.d.body
  b : ∀ (kV doc pm : Value) (an : Option Addr) (cdv ct : Value) (us : List Value), us.length = i.ps.length → bindArgs (PySem.W.fnOf i.x i.x (defArgs i.st) (defBody i.st) (defScope i.st) .none kV doc pm an cdv ct) ⟨us, []⟩ = pure (i.ps.zip us)
structure TolS (M : Mdl) : Prop where
  sc : FnScope M.tN M.tps (defScope M.tst)
  nN : M.tN.length = M.td.sl
  b : ∀ (kV doc pm : Value) (an : Option Addr) (cdv ct : Value) (us : List Value), us.length = M.tps.length → bindArgs (PySem.W.fnOf M.tx M.tx (defArgs M.tst) (defBody M.tst) (defScope M.tst) .none kV doc pm an cdv ct) ⟨us, []⟩ = pure (M.tps.zip us)
  cls : M.td.cls ∈ M.pl
  ex : ∃ (a en ret : Str) (b₀ : Stmt) (suite : List Stmt) (j : Nat) (p1 p2 p3 p4 p5 p6 p7 p8 : Pos), M.tps = [a] ∧ M.tN[M.td.ie]? = some en ∧ (defScope M.tst).names.lookup en = some .local ∧ (defScope M.tst).names.lookup M.td.cls = some .globalImplicit ∧ (M.td.cls == ("__debug__" : Str)) = false ∧ plainN a = true ∧
    M.td.ret = .str ret ∧ cSs 60 (csT M.tN M.tst M.gt) (b₀ :: suite) = some M.td.body ∧ defBody M.tst = [.Try [.Expr (.Call (.Name a p1) [] [] p2) p3] [.ExceptHandler (some (.Name M.td.cls p4)) (some en) (b₀ :: suite) p7] [] [] p8, .Return (some (.Constant (.str ret) j p5)) p6]
def inScB (P : Program) (sc : Scope) (slf : Str) (fs : List Str) : Bool := decide (sc.names.lookup ("super" : Str) = some .globalImplicit) && (decide (sc.names.lookup ("__class__" : Str) = some .free) && (decide (sc.names.lookup slf = some .local) && (fs.all (fun x => decide (sc.names.lookup x = some .local)) && (sc.names.all (fun x => decide (x.2 ≠ .cell)) &&
  (decide (sc.kind = .function) && (decide (sc.isCoroutine = false) && (decide (sc.isGenerator = false) && ((slf :: fs).all (fun x => !(x == ("__debug__" : Str))) && !(P.main.scope.names.lookup ("super" : Str)).isSome))))))))
/-- an __init__ of one | two fields -/
structure InS1 (P : Program) (i : ClI) : Prop where
  ex : ∃ (a1 a2 : Arg) (p0 p1 p2 p3 p4 pa q1 q2 q3 q4 : Pos), i.fs = [a2.arg] ∧ defArgs i.st = prm [a1, a2] ∧ defBody i.st = [.Expr (.Call (.Attribute (.Call (.Name "super" p0) [] [] p1) "__init__" p2) [.Name a2.arg pa] [] p3) p4, .Assign [.Attribute (.Name a1.arg q1) a2.arg q2] (.Name a2.arg q3) q4] ∧ a1.arg ≠ a2.arg ∧ (p2.endLine == p3.line) = true ∧ inScB P (defScope i.st) a1.arg i.fs = true ∧
    ∀ (nm : Str) (kV doc pm ct : Value) (an : Option Addr) (cda cc : Addr) (a b : Value), bindArgs (PySem.W.ksFn nm i.qual (defArgs i.st) (defBody i.st) (defScope i.st) .none kV doc pm an (.ref cda) ct cc) ⟨[a, b], []⟩ = pure [(a1.arg, a), (a2.arg, b)]
structure InS2 (P : Program) (i : ClI) : Prop where
  ex : ∃ (a1 a2 a3 : Arg) (p0 p1 p2 p3 p4 pa pb q1 q2 q3 q4 q5 q6 q7 q8 : Pos), i.fs = [a2.arg, a3.arg] ∧ defArgs i.st = prm [a1, a2, a3] ∧ defBody i.st = [.Expr (.Call (.Attribute (.Call (.Name "super" p0) [] [] p1) "__init__" p2) [.Name a2.arg pa, .Name a3.arg pb] [] p3) p4, .Assign [.Attribute (.Name a1.arg q1) a2.arg q2] (.Name a2.arg q3) q4, .Assign [.Attribute (.Name a1.arg q5) a3.arg q6] (.Name a3.arg q7) q8] ∧
    a1.arg ≠ a2.arg ∧ a1.arg ≠ a3.arg ∧ a2.arg ≠ a3.arg ∧ (p2.endLine == p3.line) = true ∧ inScB P (defScope i.st) a1.arg i.fs = true ∧
    ∀ (nm : Str) (kV doc pm ct : Value) (an : Option Addr) (cda cc : Addr) (a b c : Value), bindArgs (PySem.W.ksFn nm i.qual (defArgs i.st) (defBody i.st) (defScope i.st) .none kV doc pm an (.ref cda) ct cc) ⟨[a, b, c], []⟩ = pure [(a1.arg, a), (a2.arg, b), (a3.arg, c)]
structure MdlS (M : Mdl) : Prop where
  fl : ∀ i ∈ M.fl, FnS M.gt false i
  law : FnS M.gt true M.law
  lawp : ∃ a, M.law.ps = [a]
  tol : TolS M
  cl : ∀ i ∈ M.cl, InS1 M.P i ∨ InS2 M.P i
  out : M.gt.lookup M.law.x = none
/-! ### lists of names -/
theorem lk_two {α β : Type} {x : Str} (k : α → Str) (v : α → β) : ∀ {l : List α} {b : β}, (l.map fun i => (k i, v i)).lookup x = some b → ∃ i ∈ l, k i = x ∧ v i = b ∧ ∀ (γ : Type) (u : α → γ), (l.map fun i => (k i, u i)).lookup x = some (u i)
  | [], _, h => by cases h
  | i :: l, b, h => by
    have h : (match x == k i with | true => some (v i) | false => (l.map fun i => (k i, v i)).lookup x) = some b := h
    cases q : x == k i with
    | true =>
      rw [q] at h
      refine ⟨i, List.mem_cons_self, (beq_iff_eq.mp q).symm, Option.some.inj h, fun γ u => ?_⟩
      show (match x == k i with | true => some (u i) | false => (l.map fun i => (k i, u i)).lookup x) = some (u i)
      rw [q]
    | false =>
      rw [q] at h
      obtain ⟨j, h1, h2, h3, h4⟩ := lk_two k v (l := l) h
      refine ⟨j, List.mem_cons_of_mem _ h1, h2, h3, fun γ u => ?_⟩
      show (match x == k i with | true => some (u i) | false => (l.map fun i => (k i, u i)).lookup x) = some (u j)
      rw [q]
      exact h4 γ u
theorem lk_none {α β γ : Type} {x : Str} (k : α → Str) (v : α → β) (u : α → γ) {l : List α} (h : (l.map fun i => (k i, v i)).lookup x = none) : (l.map fun i => (k i, u i)).lookup x = none := by
  cases q : (l.map fun i => (k i, u i)).lookup x with
  | none => rfl
  | some b =>
    obtain ⟨i, _, _, _, h2⟩ := lk_two k u q
    rw [h2 _ v] at h
    cases h
theorem lk_app {β : Type} {x : Str} {l r : List (Str × β)} {b : β} (h : (l ++ r).lookup x = some b) : l.lookup x = some b ∨ (l.lookup x = none ∧ r.lookup x = some b) := by
  rw [List.lookup_append] at h
  cases q : l.lookup x with
  | none => rw [q] at h; exact .inr ⟨rfl, h⟩
  | some v => rw [q] at h; exact .inl h
section
variable {M : Mdl}
theorem gt_cases {x : Str} {g : GK} (h : M.gt.lookup x = some g) : (∃ i ∈ M.fl, i.x = x ∧ g = .fn i.d.n ∧ (M.fl.map fun i => (i.x, i.d)).lookup x = some i.d) ∨ (x = M.tx ∧ g = .told) ∨ (x ∈ M.pl ∧ g = .cls 0 ∧ M.G.ck x = some .plain) ∨ (∃ i ∈ M.cl, i.x = x ∧ g = .cls i.fs.length ∧ M.G.ck x = some (.sup i.fs)) ∨ (∃ p ∈ M.vals, p.1 = x ∧ g = .val) := by
  unfold Mdl.gt at h
  rcases lk_app h with h | ⟨_, h⟩
  · obtain ⟨i, h1, h2, h3, h4⟩ := lk_two (fun i : FnI => i.x) (fun i => GK.fn i.d.n) h
    exact .inl ⟨i, h1, h2, h3.symm, h4 _ _⟩
  · have h : (match x == M.tx with | true => some GK.told | false => (M.pl.map (fun x => (x, GK.cls 0)) ++ (M.cl.map (fun i => (i.x, GK.cls i.fs.length)) ++ M.vals.map fun p => (p.1, GK.val))).lookup x) = some g := h
    cases q : x == M.tx with
    | true =>
      rw [q] at h
      exact .inr (.inl ⟨beq_iff_eq.mp q, (Option.some.inj h).symm⟩)
    | false =>
      rw [q] at h
      rcases lk_app h with h | ⟨h0, h⟩
      · obtain ⟨y, h1, h2, h3, h4⟩ := lk_two (fun x : Str => x) (fun _ => GK.cls 0) h
        refine .inr (.inr (.inl ⟨by rw [← h2]; exact h1, h3.symm, ?_⟩))
        show (M.pl.map (fun x => (x, Ck.plain)) ++ M.cl.map fun i => (i.x, Ck.sup i.fs)).lookup x = _
        rw [List.lookup_append, h4 _ (fun _ => Ck.plain)]
        rfl
      · rcases lk_app h with h | ⟨_, h⟩
        · obtain ⟨i, h1, h2, h3, h4⟩ := lk_two (fun i : ClI => i.x) (fun i => GK.cls i.fs.length) h
          refine .inr (.inr (.inr (.inl ⟨i, h1, h2, h3.symm, ?_⟩)))
          show (M.pl.map (fun x => (x, Ck.plain)) ++ M.cl.map fun i => (i.x, Ck.sup i.fs)).lookup x = _
          rw [List.lookup_append, lk_none (fun x : Str => x) (fun _ => GK.cls 0) (fun _ => Ck.plain) h0, h4 _ (fun i => Ck.sup i.fs)]
          rfl
        · obtain ⟨p, h1, h2, h3, _⟩ := lk_two (fun p : Str × D => p.1) (fun _ => GK.val) h
          exact .inr (.inr (.inr (.inr ⟨p, h1, h2, h3.symm⟩)))
theorem ck_cases {x : Str} {fs : List Str} (h : M.G.ck x = some (.sup fs)) : ∃ i ∈ M.cl, i.x = x ∧ i.fs = fs := by
  have h : (M.pl.map (fun x => (x, Ck.plain)) ++ M.cl.map fun i => (i.x, Ck.sup i.fs)).lookup x = some (.sup fs) := h
  rcases lk_app h with h | ⟨_, h⟩
  · obtain ⟨y, _, _, h3, _⟩ := lk_two (fun x : Str => x) (fun _ => Ck.plain) h
    cases h3
  · obtain ⟨i, h1, h2, h3, _⟩ := lk_two (fun i : ClI => i.x) (fun i => Ck.sup i.fs) h
    cases h3
    exact ⟨i, h1, h2, rfl⟩
variable {w : World} {K : Frag} {h : Heap} {mg : Str → Option Value}
theorem SaysP.fact (c : SaysP M w h K) {f : He.Fa} (hf : f ∈ M.fa) : f.ok K = true := He.SaysD.facts (He.SaysT.d c.x.t) hf
theorem SaysP.gloM (c : SaysP M w h K) (X : K.In h) (G : h.Ns mainGlobals mg) {x : Str} (hx : x ∈ M.fl.map (fun i => i.x) ++ [M.law.x, M.tx] ++ M.pl ++ M.cl.map fun i => i.x) : mg x = some (.ref (He.ga K x)) :=
  He.glo_ok X G (c.fact (List.mem_append_left _ (List.mem_append_left _ (List.mem_map.mpr ⟨x, hx, rfl⟩))))
theorem fun_of {x : Str} {st : Stmt} {f : Addr} {fd : FuncData} (F : FunD K x x (defArgs st) (defBody st) (defScope st) [] [] f fd) : Fun K x x st f fd := by
  obtain ⟨oc, od, dV, kV, doc, pm, an, cdv, ct, osl, rfl, lk, hcd, hD, hK⟩ := F.ex
  rcases hD with ⟨_, rfl⟩ | ⟨e, _⟩
  · exact ⟨⟨oc, od, kV, doc, pm, an, cdv, ct, osl, rfl, lk, hcd⟩, F.kp⟩
  · exact absurd rfl e
theorem SaysP.ini_at (c : SaysP M w h K) {i : ClI} (hi : i ∈ M.cl) : inObs K i.x = i.val := by
  obtain ⟨n, hn, e⟩ := List.mem_iff_getElem.mp hi
  have e2 : (M.cl.map fun i => inObs K i.x)[n]? = (M.cl.map ClI.val)[n]? := by rw [c.ini]
  rw [List.getElem?_map, List.getElem?_map, List.getElem?_eq_getElem hn, e] at e2
  exact Option.some.inj e2
end
end Pi

set_option Elab.async false
set_option linter.all false
set_option maxRecDepth 100000
set_option maxHeartbeats 4000000
namespace Pi
open PySem L2 PyProof.Rows PiX
theorem lk_mem {α β : Type} [BEq α] [LawfulBEq α] {k : α} {v : β} : ∀ {l : List (α × β)}, l.lookup k = some v → (k, v) ∈ l
  | [], h => by cases h
  | (a, b) :: l, h => by
    have h : (match k == a with | true => some b | false => l.lookup k) = some v := h
    cases q : k == a with
    | true =>
      rw [q] at h
      cases h
      rw [beq_iff_eq.mp q]
      exact List.mem_cons_self
    | false =>
      rw [q] at h
      exact List.mem_cons_of_mem _ (lk_mem h)
section
variable {M : Mdl} {w : World} {K : Frag} {h : Heap} {mg : Str → Option Value}
/-- an __init__ as it lies -/
theorem supC_of (c : SaysP M w h K) {i : ClI} (hi : i ∈ M.cl) {slf : Str} (har : ∃ a, ((defArgs i.st).posonlyargs ++ (defArgs i.st).args).head? = some a ∧ a.arg = slf) (hs : inScB M.P (defScope i.st) slf i.fs = true) :
    (∃ cda cc, SupC M.P K (He.ga K i.x) (initA K i.x) slf i.fs i.qual (defArgs i.st) (defBody i.st) (defScope i.st) cda cc) ∧ XfC K (He.ga K i.x) := by
  have hb := (Bool.and_eq_true_iff.mp (Bool.and_eq_true_iff.mp c.x.more).2).2
  have hb := List.all_eq_true.mp hb i hi
  have ho := c.ini_at hi
  unfold supB at hb
  simp only [Bool.and_eq_true, decide_eq_true_eq] at hb
  obtain ⟨h1, h2, h3, h4, h5, h6, h7, h8, h9, h10⟩ := hb
  unfold inScB at hs
  simp only [Bool.and_eq_true, decide_eq_true_eq, Bool.not_eq_true', List.all_eq_true] at hs
  obtain ⟨s1, s2, s3, s4, s5, s6, s7, s8, s9, s10⟩ := hs
  unfold inObs at ho
  refine ⟨?_, xfB_ok h9⟩
  split at ho
  · rename_i oc od fd osl hl
    rw [hl] at h4
    obtain ⟨n1, n2, n3, n4, n5, n6, n7, n8, n9, n10, n11, n12, n13, n14, n15⟩ := fd
    have e2 : (some (n2, n3, n4, n5, n6, n7.map (·.1), n8, n15) : InV) = (some (i.qual, defArgs i.st, FuncBody.stmts (defBody i.st), defScope i.st, mainGlobals, [("__class__" : Str)], Value.none, builtinsNs) : InV) := ho
    simp only [Option.some.injEq, Prod.mk.injEq] at e2
    obtain ⟨g1, g2, g3, g4, g5, g6, g7, g8⟩ := e2
    have g6 : n7.map (·.1) = [("__class__" : Str)] := g6
    obtain ⟨y, cc, e7⟩ : ∃ y cc, n7 = [(y, cc)] := by
      match n7, g6 with
      | [(y, cc)], _ => exact ⟨y, cc, rfl⟩
      | [], z => cases z
      | _ :: _ :: _, z => exact absurd (congrArg List.length z) (by simp)
    subst e7
    cases n13 with
    | ref cda =>
      have h4 : (PySem.W.codeIn K (.ref cda) i.qual && ((match K.lookup cda with
        | some ⟨_, _, .fields vs, _⟩ => (match (vs[2]? : Option Value) with
          | some (.str fl _) => (M.P.main.file : Str) == fl
          | _ => false)
        | _ => false) && (match K.lookup cc with
          | some ⟨_, _, .cell (some (.ref C')), _⟩ => decide (C' = He.ga K i.x)
          | _ => false))) = true := h4
      simp only [Bool.and_eq_true] at h4
      obtain ⟨k1, k2, k3⟩ := h4
      have g6 : [y] = [("__class__" : Str)] := g6
      cases g6
      subst g1 g2 g3 g4 g5 g7 g8
      refine ⟨cda, cc, ⟨oexB_ok h1, He.eqO_ok h2, h3, ⟨n1, n9, n10, n11, n14, n12, oc, od, osl, hl⟩, k1, ?_, ?_, h5, He.eqO_ok h6, h7, He.eqO_ok h8, fun x hx => He.eqO_ok (List.all_eq_true.mp h10 x hx), har, s1, s2, s3, s4, s5, s6, s7, s8, s9, s10⟩⟩
      · split at k2
        · rename_i o1 o2 vs o3 hc
          split at k2
          · rename_i fl tf hv
            exact ⟨_, _, vs, _, fl, tf, hc, hv, k2⟩
          · cases k2
        · cases k2
      · split at k3
        · rename_i o1 o2 C' o3 hc
          rw [decide_eq_true_eq] at k3
          subst k3
          exact ⟨_, _, _, hc⟩
        · cases k3
    | _ => cases h4
  · cases ho
abbrev bd (K : Frag) (mg : Str → Option Value) (T : List (Addr × Str)) : Bd := { K := K, mg := mg, T := T, hand := none, xds := [] }
theorem cls_sup1 (c : SaysP M w h K) {T : List (Addr × Str)} (hms : mg "super" = none) {i : ClI} (hi : i ∈ M.cl) (gC : mg i.x = some (.ref (He.ga K i.x))) (hk : M.G.ck i.x = some (.sup i.fs)) (S : InS1 M.P i) : ClsOk (bd K mg T) M.G M.P i.x i.fs.length := by
  intro X W Pr es xs p pos hP hI hr hx hg hdb hl hn h0 ha
  obtain ⟨a1, a2, p0, p1, p2, p3, p4, pa, q1, q2, q3, q4, hfs, hA, hB, n1, hline, hsc, hbind⟩ := S.ex
  obtain ⟨⟨cda, cc, TS⟩, _⟩ := supC_of c hi (slf := a1.arg) ⟨a1, by rw [hA]; rfl, rfl⟩ hsc
  rw [hfs] at hl hk
  rw [hA, hB, hfs, ← hP, ← show X.K = K from hI.K] at TS
  match es, hl with
  | [e], _ =>
    refine PMk.imp (pmk_sup1 (k := 0) TS n1 hline (fun nm kV doc pm ct an a b => ?_) (by rw [hI.mg]; exact hms) hr hg (by rw [hI.mg, hI.K]; exact gC) ha hdb (noStar_each hn)) fun σ H Q hq => ?_
    · have z := hbind nm kV doc pm ct an cda cc a b
      rw [hA, hB] at z
      exact z
    · rw [show X.K = K from hI.K]
      exact sup_mk1 hk gC hx hq
theorem cls_sup2 (c : SaysP M w h K) {T : List (Addr × Str)} (hms : mg "super" = none) {i : ClI} (hi : i ∈ M.cl) (gC : mg i.x = some (.ref (He.ga K i.x))) (hk : M.G.ck i.x = some (.sup i.fs)) (S : InS2 M.P i) : ClsOk (bd K mg T) M.G M.P i.x i.fs.length := by
  intro X W Pr es xs p pos hP hI hr hx hg hdb hl hn h0 ha
  obtain ⟨a1, a2, a3, p0, p1, p2, p3, p4, pa, pb, q1, q2, q3, q4, q5, q6, q7, q8, hfs, hA, hB, n1, n2, n3, hline, hsc, hbind⟩ := S.ex
  obtain ⟨⟨cda, cc, TS⟩, _⟩ := supC_of c hi (slf := a1.arg) ⟨a1, by rw [hA]; rfl, rfl⟩ hsc
  rw [hfs] at hl hk
  rw [hA, hB, hfs, ← hP, ← show X.K = K from hI.K] at TS
  match es, hl with
  | [e, e2], _ =>
    refine PMk.imp (pmk_sup2 (k := 0) TS n1 n2 n3 hline (fun nm kV doc pm ct an a b c => ?_) (by rw [hI.mg]; exact hms) hr hg (by rw [hI.mg, hI.K]; exact gC) ha hdb (noStar_each hn) (noStar_any hn)) fun σ H Q hq => ?_
    · have z := hbind nm kV doc pm ct an cda cc a b c
      rw [hA, hB] at z
      exact z
    · rw [show X.K = K from hI.K]
      exact sup_mk2 hk gC hx hq
/-- the module -/
theorem modF (c : SaysP M w h K) (S : MdlS M) (X : K.In h) (G : h.Ns mainGlobals mg) (T : List (Addr × Str)) : ModF (bd K mg T) M.G M.gt M.P := by
  have glo := fun {x : Str} hx => c.gloM X G (x := x) hx
  have hsup : mg "super" = none := He.free_ok X G (c.fact (List.mem_append_right _ (List.mem_map.mpr ⟨_, List.mem_cons_self, rfl⟩)))
  refine ⟨rfl, rfl, hsup, fun x hx hg => ?_, fun x d hd hg => ?_, fun x n hg => ?_, fun x n hg => ?_⟩
  · exact He.free_ok X G (c.fact (List.mem_append_right _ (List.mem_map.mpr ⟨x, List.mem_cons_of_mem _ (List.mem_filter.mpr ⟨hx, by rw [hg]; rfl⟩), rfl⟩)))
  · have hv := List.all_eq_true.mp (Bool.and_eq_true_iff.mp c.x.more).1 (x, d) (lk_mem hd)
    unfold valB at hv
    obtain ⟨h1, h2⟩ := Bool.and_eq_true_iff.mp hv
    refine ⟨h1, ?_⟩
    split at h2
    · rename_i u hu
      obtain ⟨v, r1, r2⟩ := relG_ok h2
      exact ⟨v, u, PySem.W.mg_of X G hu, r1, fun m H => r2 _ m H rfl⟩
    · cases h2
  · rcases gt_cases hg with ⟨i, _, _, z, _⟩ | ⟨_, z⟩ | ⟨hp, z, hk⟩ | ⟨i, hi, rfl, z, hk⟩ | ⟨_, _, _, z⟩
    · cases z
    · cases z
    · cases z
      have gC := glo (x := x) (List.mem_append_left _ (List.mem_append_right _ hp))
      obtain ⟨e1, e2, e3, e4⟩ := He.exc_ok (c.fact (f := .exc x) (List.mem_append_left _ (List.mem_append_right _ (List.mem_map.mpr ⟨x, hp, rfl⟩))))
      exact ⟨⟨_, gC⟩, cls_own0 hk F.excBase_ValueError e1 gC e2 e3 e4⟩
    · cases z
      have gC := glo (x := i.x) (List.mem_append_right _ (List.mem_map.mpr ⟨i, hi, rfl⟩))
      refine ⟨⟨_, gC⟩, ?_⟩
      rcases S.cl i hi with s | s
      · exact cls_sup1 c hsup hi gC hk s
      · exact cls_sup2 c hsup hi gC hk s
    · cases z
  · rcases gt_cases hg with ⟨i, hi, rfl, z, hl⟩ | ⟨_, z⟩ | ⟨_, z, _⟩ | ⟨_, _, _, z, _⟩ | ⟨_, _, _, z⟩
    · cases z
      have ne : i.x ≠ M.law.x := fun e => by
        rw [e, S.out] at hg
        cases hg
      obtain ⟨fd, FD⟩ := He.SaysD.defs (He.SaysT.d c.x.t) (d := defD i) (List.mem_cons_of_mem _ (List.mem_cons_of_mem _ (List.mem_map.mpr ⟨i, hi, rfl⟩)))
      have s := S.fl i hi
      refine ⟨i.d, ?_, rfl, ⟨i.st, i.N, i.ps, _, fd, fun_of FD, glo (x := i.x) (List.mem_append_left _ (List.mem_append_left _ (List.mem_append_left _ (List.mem_map.mpr ⟨i, hi, rfl⟩)))), FunD.bindsN FD s.b, s.sc, s.nN, s.nP, s.c⟩⟩
      show (if i.x = M.law.x then some M.law.d else (M.fl.map fun i => (i.x, i.d)).lookup i.x) = some i.d
      rw [if_neg ne]
      exact hl
    · cases z
    · cases z
    · cases z
    · cases z
theorem exF (c : SaysP M w h K) (S : MdlS M) (X : K.In h) (G : h.Ns mainGlobals mg) (T : List (Addr × Str)) (hin : ∀ p ∈ M.subs, mg p.1.1 = some (.ref (He.ga K p.1.1)) ∧ mg p.1.2 = some (.ref (He.ga K p.1.2))) : ExF (bd K mg T) M.G := by
  have sb := (Bool.and_eq_true_iff.mp (Bool.and_eq_true_iff.mp c.x.more).2).1
  have at_ : ∀ c x b, M.G.sub c x = some b → ∀ C D, mg c = some (.ref C) → mg x = some (.ref D) → PySem.W.kitOne K (.ref C) (.ref D) = some b ∧ ExcC K C ∧ (b = true → PySem.W.exmOne K (.ref C) (.ref D) = some true) := fun c x b hs C D h1 h2 => by
    have hm := lk_mem (show M.subs.lookup (c, x) = some b from hs)
    obtain ⟨g1, g2⟩ := hin _ hm
    have z := List.all_eq_true.mp sb _ hm
    rw [h1] at g1
    rw [h2] at g2
    cases g1
    cases g2
    unfold subB at z
    simp only [Bool.and_eq_true, decide_eq_true_eq, Bool.or_eq_true, Bool.not_eq_true'] at z
    refine ⟨z.1, excCB_ok z.2.1, fun hb => ?_⟩
    rcases z.2.2 with q | q
    · rw [hb] at q
      cases q
    · exact q
  refine ⟨fun c x b hs C D h1 h2 => ⟨(at_ c x b hs C D h1 h2).1, (at_ c x b hs C D h1 h2).2.1⟩, fun c x hs C D h1 h2 => (at_ c x true hs C D h1 h2).2.2 rfl, fun y fs hk C hC => ?_⟩
  obtain ⟨i, hi, rfl, rfl⟩ := ck_cases hk
  have gC := c.gloM X G (x := i.x) (List.mem_append_right _ (List.mem_map.mpr ⟨i, hi, rfl⟩))
  have hC : mg i.x = some (.ref C) := hC
  rw [hC] at gC
  cases gC
  rcases S.cl i hi with s | s
  · obtain ⟨a1, a2, p0, p1, p2, p3, p4, pa, q1, q2, q3, q4, hfs, hA, hB, n1, hline, hsc, hbind⟩ := s.ex
    obtain ⟨⟨cda, cc, TS⟩, xf⟩ := supC_of c hi (slf := a1.arg) ⟨a1, by rw [hA]; rfl, rfl⟩ hsc
    exact ⟨xf, TS.noat⟩
  · obtain ⟨a1, a2, a3, p0, p1, p2, p3, p4, pa, pb, q1, q2, q3, q4, q5, q6, q7, q8, hfs, hA, hB, n1, n2, n3, hline, hsc, hbind⟩ := s.ex
    obtain ⟨⟨cda, cc, TS⟩, xf⟩ := supC_of c hi (slf := a1.arg) ⟨a1, by rw [hA]; rfl, rfl⟩ hsc
    exact ⟨xf, TS.noat⟩
theorem tolA (c : SaysP M w h K) (S : MdlS M) (X : K.In h) (G : h.Ns mainGlobals mg) (T : List (Addr × Str)) : TolA (bd K mg T) M.G M.gt := fun x hg => by
  rcases gt_cases hg with ⟨i, _, _, z, _⟩ | ⟨rfl, _⟩ | ⟨_, z, _⟩ | ⟨_, _, _, z, _⟩ | ⟨_, _, _, z⟩
  · cases z
  · obtain ⟨a, en, ret, b₀, suite, j, p1, p2, p3, p4, p5, p6, p7, p8, h1, h2, h3, h4, h5, h6, h7, h8, h9⟩ := S.tol.ex
    obtain ⟨fd, FD⟩ := He.SaysD.defs (He.SaysT.d c.x.t) (d := ⟨(M.tx, none), M.tx, M.tx, defArgs M.tst, defBody M.tst, defScope M.tst, [], []⟩) (List.mem_cons_of_mem _ List.mem_cons_self)
    have g1 := c.gloM X G (x := M.tx) (List.mem_append_left _ (List.mem_append_left _ (List.mem_append_right _ (List.mem_cons_of_mem _ List.mem_cons_self))))
    have g2 := c.gloM X G (x := M.td.cls) (List.mem_append_left _ (List.mem_append_right _ S.tol.cls))
    refine ⟨M.td, if_pos rfl, ⟨M.tst, M.tN, a, en, ret, _, _, fd, b₀, suite, j, p1, p2, p3, p4, p5, p6, p7, p8, fun_of FD, g1, ?_, ?_, S.tol.nN, h2, h3, h4, h5, g2, h6, h7, h8, h9⟩⟩
    · have z := FunD.bindsN FD S.tol.b
      rw [h1] at z
      exact z
    · have z := S.tol.sc
      rw [h1] at z
      exact z
  · cases z
  · cases z
  · cases z
end
end Pi

set_option Elab.async false
set_option linter.all false
set_option maxRecDepth 100000
set_option maxHeartbeats 4000000
namespace Pi
open PySem L2 PyProof.Rows PiX
def Mdl.subOk (M : Mdl) : Bool := M.subs.all fun p => (M.pl ++ M.cl.map fun i => i.x).contains p.1.1 && (M.pl ++ M.cl.map fun i => i.x).contains p.1.2
/-- what is left: the plain run -/
def PlainOk (M : Mdl) (n most : Nat) : Prop := ∀ ns : List Int, ns.length ≤ most →
  (∃ S', callN M.G (n + 1) M.law.x [.obj 0] [.lst (ns.map D.int)] = .ok (.bl true) S') ∧ (∃ S', callN M.G (n + 1) M.law.x [.rol (ns.map D.int)] [] = .ok (.bl true) S')
section
variable {M : Mdl} {w : World} {K : Frag} {h : Heap} {mg : Str → Option Value}
theorem law_at {l : PySem.W.OpenLaw} (hl : l.prog = M.P) (c : SaysP M w h K) (S : MdlS M) (X : K.In h) (G : h.Ns mainGlobals mg) (hs : M.subOk = true) {n most : Nat} {a : Str} (ha : M.law.ps = [a]) (p : PlainOk M n most) {fa : Addr} (hmg : mg M.law.x = some (.ref fa)) :
    LamX.LawAtS l w K (L2.CX M.P w) (3 * n + 3) most a mg fa h := by
  obtain ⟨fd, FD⟩ := He.SaysD.defs (He.SaysT.d c.x.t) (d := defD M.law) List.mem_cons_self
  have g1 := c.gloM X G (x := M.law.x) (List.mem_append_left _ (List.mem_append_left _ (List.mem_append_right _ List.mem_cons_self)))
  rw [hmg] at g1
  cases g1
  have hb := FunD.bindsA FD S.law.b
  obtain ⟨oc, od, kV, doc, pm, an, cdv, ct, osl, rfl, lk, hcd⟩ := (fun_of FD).ex
  obtain ⟨cc, rfl⟩ := He.codeIn_ref hcd
  have hin : ∀ q ∈ M.subs, mg q.1.1 = some (.ref (He.ga K q.1.1)) ∧ mg q.1.2 = some (.ref (He.ga K q.1.2)) := fun q hq => by
    have z := List.all_eq_true.mp hs q hq
    simp only [Bool.and_eq_true, List.contains_iff_mem] at z
    have up : ∀ {x : Str}, x ∈ (M.pl ++ M.cl.map fun i => i.x) → mg x = some (.ref (He.ga K x)) := fun {x} hx => c.gloM X G (by
      rcases List.mem_append.mp hx with q | q
      · exact List.mem_append_left _ (List.mem_append_right _ q)
      · exact List.mem_append_right _ q)
    exact ⟨up z.1, up z.2⟩
  have hct : He.cT K (M.law.x, none) = (cc, He.tabOf K cc) := by
    unfold He.cT
    rw [He.codeOf_eq (p := (M.law.x, none)) lk rfl]
  have h1 : (M.law.x, (none : Option Str)) ∈ [(M.law.x, (none : Option Str))] := List.mem_cons_self
  have hT := c.x.empty _ h1
  have nT := c.x.out _ h1
  have hC := PySem.W.codeHd_of_K X (c.x.hd _ h1)
  rw [hct] at hT nT hC
  have hd1 : M.law.d.n = 1 := by rw [← S.law.nP, ha]; rfl
  have hq : M.G.fns M.law.x = some M.law.d := if_pos rfl
  refine ⟨PySem.W.fnOf M.law.x M.law.x (defArgs M.law.st) (defBody M.law.st) (defScope M.law.st) .none kV doc pm an (.ref cc) ct, [(cc, He.tabOf K cc)], spC (bd K mg [(He.tabOf K cc, (M.law.x ++ ".<locals>.") ++ "<lambda>")]) (parN M.G (n + 1)) M.law.x 1, fun q hq => by rw [List.mem_singleton.mp hq]; exact hT, fun q hq => by rw [List.mem_singleton.mp hq]; exact nT, fun q hq => by rw [List.mem_singleton.mp hq]; exact hC, fun s u => ?_, fun H a' ns hlen _ hH hS => ?_, fun base KB GB TB => ?_⟩
  · have z := hb s [u] (by rw [ha]; rfl)
    rw [ha] at z
    exact z
  · have tb : LamX.Tabs [(He.tabOf K cc, (M.law.x ++ ".<locals>.") ++ "<lambda>")] H := fun q hq => by
      rw [List.mem_singleton.mp hq]
      exact .nil (hH _ List.mem_cons_self)
    obtain ⟨⟨S1, p1⟩, ⟨S2, p2⟩⟩ := p ns hlen
    have ro : RoL K H a' (ns.map V.int) → spC (bd K mg [(He.tabOf K cc, (M.law.x ++ ".<locals>.") ++ "<lambda>")]) (parN M.G (n + 1)) M.law.x 1 [.ref a'] H (fun v _ => v = .bl true) fun _ _ _ => False := fun q => by
      refine ⟨[], [], [.rol (ns.map D.int)], ⟨rfl, List.nodup_nil, fun n a o h => by simp at h, tb, fun p hp => by cases hp⟩, .cons (.rol q (Reps.ints ns)) .nil, rfl, ?_⟩
      show PostE _ _ (callN M.G (n + 1) M.law.x [.rol (ns.map D.int)] []) _ _ _ _
      rw [p2]
      intro m' H' b _ _ r
      cases r
      rfl
    rcases hS with (hS | ⟨o, hS⟩) | hS
    · refine ⟨[a'], [.lst (ns.map D.int)], [.obj 0], ⟨rfl, by simp, fun n a o h1 h2 => ?_, tb, fun p hp => by cases hp⟩, .cons (.obj rfl) .nil, rfl, ?_⟩
      · cases n with
        | zero =>
          cases h1
          cases h2
          exact ⟨_, hS, Reps.ints ns⟩
        | succ n => simp at h1
      · show PostE _ _ (callN M.G (n + 1) M.law.x [.obj 0] [.lst (ns.map D.int)]) _ _ _ _
        rw [p1]
        intro m' H' b _ _ r
        cases r
        rfl
    · exact ro (.inl ⟨o, hS⟩)
    · exact ro (.inr hS)
  · rw [hl]
    exact law_ok (B := bd K mg [(He.tabOf K cc, (M.law.x ++ ".<locals>.") ++ "<lambda>")]) (modF c S X G _) (exF c S X G _ hin) (tolA c S X G _) (by have z := S.law.sc; rw [ha] at z; exact z) lk hcd (TB _ List.mem_cons_self) rfl S.law.c S.law.nN hd1 hq
end
/-- THE END: what a law's text must bring -/
theorem law_holds {l : PySem.W.OpenLaw} {M : Mdl} {n most k : Nat} {loose : List Str} {q : Program} {a : Str} (hl : l.prog = M.P) (S : MdlS M) (hs : M.subOk = true) (ha : M.law.ps = [a]) (p : PlainOk M n most) (hm : l.most = some most) (hm2 : most ≤ sizeLine) (hr : Room (3 * n + 3) callerA)
    (hd : (HandSHeadRun.topDef l.prog k).name = M.law.x) (hdf : (HandSHeadRun.topDef l.prog k).params.defaults = []) {XP : (Str → Option Value) → Heap → Prop} {nn : Nat} :
    PySem.W.WalkO q loose XP (hookP M nn).says l.row.toRowW (HandSHeadRun.topDef l.prog k) [] (fun f vs => PySem.call f vs) := by
  refine LamX.walk_ofTsE (l := l) (n := most) (k := 3 * n + 3) (x := a) (CX := fun w => L2.CX M.P w) hm hm2 hdf hr (fun w mg fa h Y G hmg => ?_) fun w H s e s' z => ?_
  · obtain ⟨K, KX, c⟩ := Y
    rw [hd] at hmg
    exact ⟨K, KX, law_at hl c S KX G hs ha p hmg⟩
  · obtain ⟨_, _, _, _, _, _, _, _, _, _, _, _, z⟩ := z
    exact z.elim
end Pi

set_option Elab.async false
set_option linter.all false
set_option maxRecDepth 100000
set_option maxHeartbeats 4000000
namespace Pi
open PySem L2
/-! The laws' draws: taken(row, many), pick(row, things). -/
abbrev eI (i : Int) : E := .c (.int i)
abbrev rw_ (k : Int) : E := .ix (.var 0) (eI k)
abbrev one1 (e : E) : Es := .cons e .nil
def tk1 : Ss := .cons (.asg (.one 3) (.bin .Mod (.blt "int" (one1 (rw_ 3))) (.var 1))) (.cons (.setix (.var 0) (eI 3) (.bin .FloorDiv (rw_ 3) (.var 1))) (.cons (.ret (.var 3)) .nil))
def tk2 : Ss := .cons (.setix (.var 0) (eI 2) (.bin .Mod (.blt "int" (one1 (.bin .Add (.bin .Mult (rw_ 2) (eI 48271)) (eI 11)))) (eI 2147483647))) (.cons (.ret (.bin .Mod (.blt "int" (one1 (.bin .FloorDiv (rw_ 2) (eI 7)))) (.var 1))) .nil)
def takenB : Ss := .cons (.ife (.cmp .Gt (rw_ 3) (eI 0)) tk1 .nil) (.cons (.setix (.var 0) (eI 1) (.bin .Add (rw_ 1) (eI 1))) (.cons (.ife (.cmp .Gt (rw_ 1) (.blt "len" (one1 (rw_ 0)))) tk2 .nil)
  (.cons (.asg (.one 2) (.ix (rw_ 0) (.bin .Sub (rw_ 1) (eI 1)))) (.cons (.setix (.var 0) (eI 2) (.bin .Mod (.blt "int" (one1 (.bin .Add (.bin .Add (.bin .Mult (rw_ 2) (eI 48271)) (.var 2)) (eI 11)))) (eI 2147483647)))
  (.cons (.ife (.cmp .GtE (.var 2) (.bin .Pow (eI 10) (eI 18))) (.cons (.setix (.var 0) (eI 3) (.bin .FloorDiv (.var 2) (.var 1))) .nil) .nil) (.cons (.ret (.bin .Mod (.blt "int" (one1 (.var 2))) (.var 1))) .nil))))))
def pickB (t : Str) : Ss := .cons (.ret (.ix (.var 1) (.call t (.cons (.var 0) (one1 (.blt "len" (one1 (.var 1)))))))) .nil
end Pi

set_option Elab.async false
set_option linter.all false
set_option maxRecDepth 100000
set_option maxHeartbeats 4000000
namespace Pi
open PySem L2
/-- the store with the row at r -/
abbrev rowO (sc : D) (i j k : Int) : Ob := .lst [sc, .int i, .int j, .int k]
section
variable {P : Par} {r : Nat} {sc : D} {ns : List Int} {i j k m : Int} {S : Sto} {ρ : Env}
theorem row_at (hr : r < S.length) : (S.set r (rowO sc i j k))[r]? = some (rowO sc i j k) := List.getElem?_set_self hr
theorem ev_row (h0 : getV ρ 0 = some (.obj r)) {ds : List D} (hS : S[r]? = some (.lst ds)) (n : Int) : ev P (rw_ n) ρ S = okO (atI ds n) S := by
  show ((okO (getV ρ 0) S).bind fun x S1 => (Res.ok (D.int n) S1).bind fun y S2 => ixD S2 x y) = _
  rw [h0]
  show okO ((seqOf S (.obj r)).bind fun ds => atI ds n) S = _
  unfold seqOf
  dsimp only
  rw [hS]
  rfl
theorem ex_row (h0 : getV ρ 0 = some (.obj r)) {ds : List D} (hS : S[r]? = some (.lst ds)) {n : Int} {z : Nat} (hz : ixN ds.length n = some z) {e : E} {d : D} (he : ev P e ρ S = .ok d S) : ex P (.setix (.var 0) (eI n) e) ρ S = .ok (.nx ρ) (S.set r (.lst (ds.set z d))) := by
  show ((ev P e ρ S).bind fun d S1 => (okO (getV ρ 0) S1).bind fun x S2 => (Res.ok (D.int n) S2).bind fun k S3 => (setIx S3 x k d).bind fun _ S4 => Res.ok (Fl.nx ρ) S4) = _
  rw [he]
  show ((okO (getV ρ 0) S).bind fun x S2 => (Res.ok (D.int n) S2).bind fun k S3 => (setIx S3 x k d).bind fun _ S4 => Res.ok (Fl.nx ρ) S4) = _
  rw [h0]
  show ((setIx S (.obj r) (.int n) d).bind fun _ S4 => Res.ok (Fl.nx ρ) S4) = _
  unfold setIx
  dsimp only
  rw [hS]
  dsimp only
  rw [hz]
  rfl
theorem ev_mod {a : E} {x : Int} (hm : getV ρ 1 = some (.int m)) (hm0 : 0 < m) (ha : ev P a ρ S = .ok (.int x) S) : ev P (.bin .Mod (.blt "int" (one1 a)) (.var 1)) ρ S = .ok (.int (x % m)) S := by
  show (((ev P a ρ S).bind fun x S1 => (Res.ok ([] : List D) S1).bind fun xs S2 => Res.ok (x :: xs) S2).bind fun ds S1 => bltn P.calm "int" ds S1).bind (fun x S1 => (okO (getV ρ 1) S1).bind fun y S2 => binop .Mod x y S2) = _
  rw [ha]
  show (bltn P.calm "int" [.int x] S).bind (fun x S1 => (okO (getV ρ 1) S1).bind fun y S2 => binop .Mod x y S2) = _
  show (okO (getV ρ 1) S).bind (fun y S2 => binop .Mod (D.int x) y S2) = _
  rw [hm]
  show (if 0 < m then Res.ok (D.int (x % m)) S else .no) = _
  rw [if_pos hm0]
theorem ev_div {a : E} {x : Int} (hm : getV ρ 1 = some (.int m)) (hm0 : 0 < m) (hm2 : m < 1073741824) (ha : ev P a ρ S = .ok (.int x) S) : ev P (.bin .FloorDiv a (.var 1)) ρ S = .ok (.int (x / m)) S := by
  show ((ev P a ρ S).bind fun x S1 => (okO (getV ρ 1) S1).bind fun y S2 => binop .FloorDiv x y S2) = _
  rw [ha]
  show (okO (getV ρ 1) S).bind (fun y S2 => binop .FloorDiv (.int x) y S2) = _
  rw [hm]
  show (if (decide (0 < m) && decide (m < 1073741824)) = true then Res.ok (D.int (x / m)) S else .no) = _
  rw [if_pos (by rw [decide_eq_true hm0, decide_eq_true hm2] <;> rfl)]
theorem ev_gt {a b : E} {x y : Int} (ha : ev P a ρ S = .ok (.int x) S) (hb : ev P b ρ S = .ok (.int y) S) : ev P (.cmp .Gt a b) ρ S = .ok (.bl (decide (y < x))) S := by
  show ((ev P a ρ S).bind fun x S1 => (ev P b ρ S1).bind fun y S2 => okB (cmpop .Gt x y S2) S2) = _
  rw [ha]
  show ((ev P b ρ S).bind fun y S2 => okB (cmpop .Gt (.int x) y S2) S2) = _
  rw [hb]
  rfl
theorem ev_ge {a b : E} {x y : Int} (ha : ev P a ρ S = .ok (.int x) S) (hb : ev P b ρ S = .ok (.int y) S) : ev P (.cmp .GtE a b) ρ S = .ok (.bl (decide (y ≤ x))) S := by
  show ((ev P a ρ S).bind fun x S1 => (ev P b ρ S1).bind fun y S2 => okB (cmpop .GtE x y S2) S2) = _
  rw [ha]
  show ((ev P b ρ S).bind fun y S2 => okB (cmpop .GtE (.int x) y S2) S2) = _
  rw [hb]
  rfl
theorem ev_add {a b : E} {x y : Int} (ha : ev P a ρ S = .ok (.int x) S) (hb : ev P b ρ S = .ok (.int y) S) : ev P (.bin .Add a b) ρ S = .ok (.int (x + y)) S := by
  show ((ev P a ρ S).bind fun x S1 => (ev P b ρ S1).bind fun y S2 => binop .Add x y S2) = _
  rw [ha]
  show ((ev P b ρ S).bind fun y S2 => binop .Add (.int x) y S2) = _
  rw [hb]
  rfl
theorem ev_sub {a b : E} {x y : Int} (ha : ev P a ρ S = .ok (.int x) S) (hb : ev P b ρ S = .ok (.int y) S) : ev P (.bin .Sub a b) ρ S = .ok (.int (x - y)) S := by
  show ((ev P a ρ S).bind fun x S1 => (ev P b ρ S1).bind fun y S2 => binop .Sub x y S2) = _
  rw [ha]
  show ((ev P b ρ S).bind fun y S2 => binop .Sub (.int x) y S2) = _
  rw [hb]
  rfl
theorem ev_seed {a : E} {x : Int} (ha : ev P a ρ S = .ok (.int x) S) : ev P (.bin .Mult a (eI 48271)) ρ S = .ok (.int (x * 48271)) S := by
  show ((ev P a ρ S).bind fun x S1 => (Res.ok (D.int 48271) S1).bind fun y S2 => binop .Mult x y S2) = _
  rw [ha]
  show (if mulOk x 48271 then Res.ok (D.int (x * 48271)) S else .no) = _
  rw [if_pos (by unfold mulOk; rw [show (decide ((-(2 ^ 64) : Int) < 48271) && decide ((48271 : Int) < 2 ^ 64)) = true by decide, Bool.or_true])]
theorem ev_rest {a : E} {x : Int} (ha : ev P a ρ S = .ok (.int x) S) : ev P (.bin .Mod (.blt "int" (one1 a)) (eI 2147483647)) ρ S = .ok (.int (x % 2147483647)) S := by
  show (((ev P a ρ S).bind fun x S1 => (Res.ok ([] : List D) S1).bind fun xs S2 => Res.ok (x :: xs) S2).bind fun ds S1 => bltn P.calm "int" ds S1).bind (fun x S1 => (Res.ok (D.int 2147483647) S1).bind fun y S2 => binop .Mod x y S2) = _
  rw [ha]
  rfl
theorem ev_seven {a : E} {x : Int} (ha : ev P a ρ S = .ok (.int x) S) : ev P (.bin .FloorDiv a (eI 7)) ρ S = .ok (.int (x / 7)) S := by
  show ((ev P a ρ S).bind fun x S1 => (Res.ok (D.int 7) S1).bind fun y S2 => binop .FloorDiv x y S2) = _
  rw [ha]
  rfl
theorem exs_nx {s : Stm} {ss : Ss} {ρ' : Env} {S' : Sto} (h : ex P s ρ S = .ok (.nx ρ') S') : exs P (.cons s ss) ρ S = exs P ss ρ' S' := by
  show ((ex P s ρ S).bind fun fl S1 => (match fl with
    | .nx ρ1 => exs P ss ρ1 S1
    | fl => .ok fl S1)) = _
  rw [h]
  rfl
theorem exs_rt {s : Stm} {ss : Ss} {d : D} {S' : Sto} (h : ex P s ρ S = .ok (.rt d) S') : exs P (.cons s ss) ρ S = .ok (.rt d) S' := by
  show ((ex P s ρ S).bind fun fl S1 => (match fl with
    | .nx ρ1 => exs P ss ρ1 S1
    | fl => .ok fl S1)) = _
  rw [h]
  rfl
theorem ex_if {t : E} {a b : Ss} {c : Bool} {S' : Sto} (h : ev P t ρ S = .ok (.bl c) S') : ex P (.ife t a b) ρ S = if c = true then exs P a ρ S' else exs P b ρ S' := by
  show ((ev P t ρ S).bind fun x S1 => (match x with
    | .bl true => exs P a ρ S1
    | .bl false => exs P b ρ S1
    | _ => .no)) = _
  rw [h]
  cases c <;> rfl
theorem ex_asg {e : E} {n : Nat} {d : D} {S' : Sto} (h : ev P e ρ S = .ok d S') : ex P (.asg (.one n) e) ρ S = .ok (.nx (ρ.set n (some d))) S' := by
  show ((ev P e ρ S).bind fun d S1 => nxO (setT ρ (.one n) d) S1) = _
  rw [h]
  rfl
theorem ex_ret {e : E} {d : D} {S' : Sto} (h : ev P e ρ S = .ok d S') : ex P (.ret e) ρ S = .ok (.rt d) S' := by
  show ((ev P e ρ S).bind fun d S1 => Res.ok (Fl.rt d) S1) = _
  rw [h]
  rfl
theorem taken_run (hr : r < S.length) (hsc : ∀ i j k, seqOf (S.set r (rowO sc i j k)) sc = some (ns.map .int)) (hl : ns.length ≤ 63) (hi : 0 ≤ i) (hm : 0 < m) (hm2 : m < 1073741824) :
    ∃ c i' j' k', 0 ≤ c ∧ c < m ∧ 0 ≤ i' ∧ exs P takenB [some (.obj r), some (.int m), none, none] (S.set r (rowO sc i j k)) = .ok (.rt (.int c)) (S.set r (rowO sc i' j' k')) := by
  have hs : ∀ a b c a' b' c', (S.set r (rowO sc a b c)).set r (rowO sc a' b' c') = S.set r (rowO sc a' b' c') := fun a b c a' b' c' => List.set_set _
  have g0 : ∀ x y : Option D, getV [some (.obj r), some (.int m), x, y] 0 = some (.obj r) := fun _ _ => rfl
  have g1 : ∀ x y : Option D, getV [some (.obj r), some (.int m), x, y] 1 = some (.int m) := fun _ _ => rfl
  have e0 : ∀ (x y : Option D) (i j k : Int), ev P (rw_ 0) [some (.obj r), some (.int m), x, y] (S.set r (rowO sc i j k)) = .ok sc (S.set r (rowO sc i j k)) := fun x y i j k => ev_row (g0 x y) (row_at hr) 0
  have e1 : ∀ (x y : Option D) (i j k : Int), ev P (rw_ 1) [some (.obj r), some (.int m), x, y] (S.set r (rowO sc i j k)) = .ok (.int i) (S.set r (rowO sc i j k)) := fun x y i j k => ev_row (g0 x y) (row_at hr) 1
  have e2 : ∀ (x y : Option D) (i j k : Int), ev P (rw_ 2) [some (.obj r), some (.int m), x, y] (S.set r (rowO sc i j k)) = .ok (.int j) (S.set r (rowO sc i j k)) := fun x y i j k => ev_row (g0 x y) (row_at hr) 2
  have e3 : ∀ (x y : Option D) (i j k : Int), ev P (rw_ 3) [some (.obj r), some (.int m), x, y] (S.set r (rowO sc i j k)) = .ok (.int k) (S.set r (rowO sc i j k)) := fun x y i j k => ev_row (g0 x y) (row_at hr) 3
  have s1 : ∀ (x y : Option D) (i j k : Int) {e : E} {v : Int}, ev P e [some (.obj r), some (.int m), x, y] (S.set r (rowO sc i j k)) = .ok (.int v) (S.set r (rowO sc i j k)) → ex P (.setix (.var 0) (eI 1) e) [some (.obj r), some (.int m), x, y] (S.set r (rowO sc i j k)) = .ok (.nx [some (.obj r), some (.int m), x, y]) (S.set r (rowO sc v j k)) := fun x y i j k e v h => by
    rw [ex_row (g0 x y) (row_at hr) (z := 1) rfl h]
    show Res.ok _ ((S.set r _).set r (rowO sc v j k)) = _
    rw [hs]
  have s2 : ∀ (x y : Option D) (i j k : Int) {e : E} {v : Int}, ev P e [some (.obj r), some (.int m), x, y] (S.set r (rowO sc i j k)) = .ok (.int v) (S.set r (rowO sc i j k)) → ex P (.setix (.var 0) (eI 2) e) [some (.obj r), some (.int m), x, y] (S.set r (rowO sc i j k)) = .ok (.nx [some (.obj r), some (.int m), x, y]) (S.set r (rowO sc i v k)) := fun x y i j k e v h => by
    rw [ex_row (g0 x y) (row_at hr) (z := 2) rfl h]
    show Res.ok _ ((S.set r _).set r (rowO sc i v k)) = _
    rw [hs]
  have s3 : ∀ (x y : Option D) (i j k : Int) {e : E} {v : Int}, ev P e [some (.obj r), some (.int m), x, y] (S.set r (rowO sc i j k)) = .ok (.int v) (S.set r (rowO sc i j k)) → ex P (.setix (.var 0) (eI 3) e) [some (.obj r), some (.int m), x, y] (S.set r (rowO sc i j k)) = .ok (.nx [some (.obj r), some (.int m), x, y]) (S.set r (rowO sc i j v)) := fun x y i j k e v h => by
    rw [ex_row (g0 x y) (row_at hr) (z := 3) rfl h]
    show Res.ok _ ((S.set r _).set r (rowO sc i j v)) = _
    rw [hs]
  have ec : ∀ (ρ : Env) (S : Sto) (n : Int), ev P (eI n) ρ S = .ok (.int n) S := fun _ _ _ => rfl
  have mo : ∀ x : Int, 0 ≤ x % m ∧ x % m < m := fun x => ⟨Int.emod_nonneg _ (by omega), Int.emod_lt_of_pos _ hm⟩
  unfold takenB
  by_cases hk : 0 < k
  · refine ⟨k % m, i, j, k / m, (mo k).1, (mo k).2, hi, exs_rt ?_⟩
    rw [ex_if (ev_gt (e3 _ _ _ _ _) (ec _ _ _)), if_pos (decide_eq_true hk)]
    unfold tk1
    rw [exs_nx (ex_asg (ev_mod (g1 _ _) hm (e3 _ _ _ _ _)))]
    show exs P _ [some (.obj r), some (.int m), none, some (.int (k % m))] _ = _
    rw [exs_nx (s3 _ _ _ _ _ (ev_div (g1 _ _) hm hm2 (e3 _ _ _ _ _)))]
    exact exs_rt rfl
  · have n1 : ex P (.ife (.cmp .Gt (rw_ 3) (eI 0)) tk1 .nil) [some (.obj r), some (.int m), none, none] (S.set r (rowO sc i j k)) = .ok (.nx [some (.obj r), some (.int m), none, none]) (S.set r (rowO sc i j k)) := by
      rw [ex_if (ev_gt (e3 _ _ _ _ _) (ec _ _ _)), if_neg (by simpa using hk)]
      rfl
    rw [exs_nx n1, exs_nx (s1 _ _ _ _ _ (ev_add (e1 _ _ _ _ _) (ec _ _ _)))]
    have len : ∀ i j k, ev P (.blt "len" (one1 (rw_ 0))) [some (.obj r), some (.int m), none, none] (S.set r (rowO sc i j k)) = .ok (.int ns.length) (S.set r (rowO sc i j k)) := fun i j k => by
      show (((ev P (rw_ 0) _ _).bind fun x S1 => (Res.ok ([] : List D) S1).bind fun xs S2 => Res.ok (x :: xs) S2).bind fun ds S1 => bltn P.calm "len" ds S1) = _
      rw [e0]
      show bLen [sc] _ = _
      have q := hsc i j k
      unfold bLen
      cases sc with
      | str _ => cases q
      | _ =>
        dsimp only
        rw [q]
        show okO (some (D.int ((ns.map D.int).length : Nat))) _ = _
        rw [List.length_map]
        rfl
    by_cases h2 : (ns.length : Int) < i + 1
    · refine ⟨((j * 48271 + 11) % 2147483647 / 7) % m, i + 1, (j * 48271 + 11) % 2147483647, k, (mo _).1, (mo _).2, by omega, exs_rt ?_⟩
      rw [ex_if (ev_gt (e1 _ _ _ _ _) (len _ _ _)), if_pos (decide_eq_true h2)]
      unfold tk2
      rw [exs_nx (s2 _ _ _ _ _ (ev_rest (ev_add (ev_seed (e2 _ _ _ _ _)) (ec _ _ _))))]
      exact exs_rt (ex_ret (ev_mod (g1 _ _) hm (ev_seven (e2 _ _ _ _ _))))
    · have n2 : ex P (.ife (.cmp .Gt (rw_ 1) (.blt "len" (one1 (rw_ 0)))) tk2 .nil) [some (.obj r), some (.int m), none, none] (S.set r (rowO sc (i + 1) j k)) = .ok (.nx [some (.obj r), some (.int m), none, none]) (S.set r (rowO sc (i + 1) j k)) := by
        rw [ex_if (ev_gt (e1 _ _ _ _ _) (len _ _ _)), if_neg (by simpa using h2)]
        rfl
      obtain ⟨cell, hcell⟩ : ∃ cell, ns[i.toNat]? = some cell := ⟨_, List.getElem?_eq_getElem (by omega)⟩
      have ce : ev P (.ix (rw_ 0) (.bin .Sub (rw_ 1) (eI 1))) [some (.obj r), some (.int m), none, none] (S.set r (rowO sc (i + 1) j k)) = .ok (.int cell) (S.set r (rowO sc (i + 1) j k)) := by
        show ((ev P (rw_ 0) _ _).bind fun x S1 => (ev P (.bin .Sub (rw_ 1) (eI 1)) _ S1).bind fun y S2 => ixD S2 x y) = _
        rw [e0]
        show ((ev P (.bin .Sub (rw_ 1) (eI 1)) _ _).bind fun y S2 => ixD S2 sc y) = _
        rw [ev_sub (e1 _ _ _ _ _) (ec _ _ _)]
        show ixD _ sc (.int (i + 1 - 1)) = _
        have q := hsc (i + 1) j k
        have at_ : atI (ns.map D.int) (i + 1 - 1) = some (.int cell) := by
          unfold atI ixN
          rw [List.length_map, if_pos (by omega), if_pos (by omega)]
          show (ns.map D.int)[(i + 1 - 1).toNat]? = _
          rw [List.getElem?_map, show (i + 1 - 1).toNat = i.toNat by omega, hcell]
          rfl
        unfold ixD
        cases sc with
        | str _ => cases q
        | _ =>
          dsimp only
          rw [q]
          show okO (atI (ns.map D.int) (i + 1 - 1)) _ = _
          rw [at_]
          rfl
      rw [exs_nx n2, exs_nx (ex_asg ce)]
      show ∃ c i' j' k', 0 ≤ c ∧ c < m ∧ 0 ≤ i' ∧ exs P _ [some (.obj r), some (.int m), some (.int cell), none] _ = _
      have ec2 : ∀ (y : Option D) (S : Sto), ev P (.var 2) [some (.obj r), some (.int m), some (.int cell), y] S = .ok (.int cell) S := fun _ _ => rfl
      rw [exs_nx (s2 _ _ _ _ _ (ev_rest (ev_add (ev_add (ev_seed (e2 _ _ _ _ _)) (ec2 _ _)) (ec _ _ _))))]
      have tp : ∀ (S : Sto) (ρ : Env), ev P (.bin .Pow (eI 10) (eI 18)) ρ S = .ok (.int (10 ^ 18)) S := fun _ _ => rfl
      by_cases h3 : (10 ^ 18 : Int) ≤ cell
      · refine ⟨cell % m, i + 1, (j * 48271 + cell + 11) % 2147483647, cell / m, (mo _).1, (mo _).2, by omega, ?_⟩
        have n3 : ∀ j, ex P (.ife (.cmp .GtE (.var 2) (.bin .Pow (eI 10) (eI 18))) (.cons (.setix (.var 0) (eI 3) (.bin .FloorDiv (.var 2) (.var 1))) .nil) .nil) [some (.obj r), some (.int m), some (.int cell), none] (S.set r (rowO sc (i + 1) j k)) = .ok (.nx [some (.obj r), some (.int m), some (.int cell), none]) (S.set r (rowO sc (i + 1) j (cell / m))) := fun j => by
          rw [ex_if (ev_ge (ec2 _ _) (tp _ _)), if_pos (decide_eq_true h3), exs_nx (s3 _ _ _ _ _ (ev_div (g1 _ _) hm hm2 (ec2 _ _)))]
          rfl
        rw [exs_nx (n3 _)]
        exact exs_rt (ex_ret (ev_mod (g1 _ _) hm (ec2 _ _)))
      · refine ⟨cell % m, i + 1, (j * 48271 + cell + 11) % 2147483647, k, (mo _).1, (mo _).2, by omega, ?_⟩
        have n3 : ∀ j, ex P (.ife (.cmp .GtE (.var 2) (.bin .Pow (eI 10) (eI 18))) (.cons (.setix (.var 0) (eI 3) (.bin .FloorDiv (.var 2) (.var 1))) .nil) .nil) [some (.obj r), some (.int m), some (.int cell), none] (S.set r (rowO sc (i + 1) j k)) = .ok (.nx [some (.obj r), some (.int m), some (.int cell), none]) (S.set r (rowO sc (i + 1) j k)) := fun j => by
          rw [ex_if (ev_ge (ec2 _ _) (tp _ _)), if_neg (by simpa using h3)]
          rfl
        rw [exs_nx (n3 _)]
        exact exs_rt (ex_ret (ev_mod (g1 _ _) hm (ec2 _ _)))
end
end Pi

set_option Elab.async false
set_option linter.all false
set_option maxRecDepth 100000
set_option maxHeartbeats 4000000
namespace Pi
open PySem L2
section
variable {G : Prg} {r : Nat} {sc th : D} {ns : List Int} {i j k m : Int} {S : Sto} {ds : List D} {t p : Str}
theorem call_open {d : Dfn} {x : Str} {ds : List D} {n : Nat} {S : Sto} (hd : G.fns x = some d) (hn : ds.length = d.n) (hc : closedL ds = false) : callN G (n + 1) x ds S = runB (parN G n) d ds S := by
  unfold callN
  rw [hd]
  show (if ds.length = d.n then (if closedL ds = true then backC S (runB (parN G n) d ds []) else runB (parN G n) d ds S) else .no) = _
  rw [if_pos hn, if_neg (by rw [hc]; exact Bool.false_ne_true)]
theorem call_closed {d : Dfn} {x : Str} {ds : List D} {n : Nat} {S : Sto} (hd : G.fns x = some d) (hn : ds.length = d.n) (hc : closedL ds = true) : callN G (n + 1) x ds S = backC S (runB (parN G n) d ds []) := by
  unfold callN
  rw [hd]
  show (if ds.length = d.n then (if closedL ds = true then backC S (runB (parN G n) d ds []) else runB (parN G n) d ds S) else .no) = _
  rw [if_pos hn, if_pos hc]
theorem taken_call (hd : G.fns t = some ⟨2, 4, takenB⟩) (n : Nat) (hr : r < S.length) (hsc : ∀ i j k, seqOf (S.set r (rowO sc i j k)) sc = some (ns.map .int)) (hl : ns.length ≤ 63) (hi : 0 ≤ i) (hm : 0 < m) (hm2 : m < 1073741824) :
    ∃ c i' j' k', 0 ≤ c ∧ c < m ∧ 0 ≤ i' ∧ callN G (n + 1) t [.obj r, .int m] (S.set r (rowO sc i j k)) = .ok (.int c) (S.set r (rowO sc i' j' k')) := by
  obtain ⟨c, i', j', k', h1, h2, h3, h4⟩ := taken_run (P := parN G n) (k := k) (j := j) hr hsc hl hi hm hm2
  refine ⟨c, i', j', k', h1, h2, h3, ?_⟩
  rw [call_open hd rfl rfl]
  unfold runB
  show (match exs (parN G n) takenB [some (.obj r), some (.int m), none, none] (S.set r (rowO sc i j k)) with
    | .ok (.nx _) S' => Res.ok D.non S'
    | .ok (.rt v) S' => .ok v S'
    | .ok _ _ => .no
    | .er e S' => .er e S'
    | .no => .no) = _
  rw [h4]
theorem pick_call (hp : G.fns p = some ⟨2, 2, pickB t⟩) (hd : G.fns t = some ⟨2, 4, takenB⟩) (n : Nat) (hr : r < S.length) (hsc : ∀ i j k, seqOf (S.set r (rowO sc i j k)) sc = some (ns.map .int)) (hl : ns.length ≤ 63) (hi : 0 ≤ i) (hth : ∀ i j k, seqOf (S.set r (rowO sc i j k)) th = some ds) (h0 : ds ≠ []) (h2 : ds.length < 1073741824) :
    ∃ (q : Nat) (x : D) (i' j' k' : Int), ds[q]? = some x ∧ 0 ≤ i' ∧ callN G (n + 2) p [.obj r, th] (S.set r (rowO sc i j k)) = .ok x (S.set r (rowO sc i' j' k')) := by
  have hlen : 0 < ds.length := List.length_pos_iff.mpr h0
  obtain ⟨c, i', j', k', e1, e2, e3, e4⟩ := taken_call (k := k) (j := j) (m := (ds.length : Int)) hd n hr hsc hl hi (by omega) (by omega)
  have hq : c.toNat < ds.length := by omega
  refine ⟨c.toNat, ds[c.toNat], i', j', k', List.getElem?_eq_getElem hq, e3, ?_⟩
  rw [call_open hp rfl rfl]
  have ns : ∀ z, th ≠ .str z := fun z e => by
    have q := hth 0 0 0
    rw [e] at q
    cases q
  have ln : ∀ S', seqOf S' th = some ds → bLen [th] S' = .ok (.int ds.length) S' := fun S' hs => by
    unfold bLen
    cases th with
    | str z => exact (ns z rfl).elim
    | _ =>
      dsimp only
      rw [hs]
      rfl
  have ixs : ∀ S', seqOf S' th = some ds → ixD S' th (.int c) = .ok ds[c.toNat] S' := fun S' hs => by
    unfold ixD
    have at_ : atI ds c = some ds[c.toNat] := by
      unfold atI ixN
      rw [if_pos e1, if_pos e2]
      exact List.getElem?_eq_getElem hq
    cases th with
    | str z => exact (ns z rfl).elim
    | _ =>
      dsimp only
      rw [hs]
      show okO (atI ds c) S' = _
      rw [at_]
      rfl
  have hcall : ev (parN G (n + 1)) (.ix (.var 1) (.call t (.cons (.var 0) (one1 (.blt "len" (one1 (.var 1))))))) [some (.obj r), some th] (S.set r (rowO sc i j k)) = .ok ds[c.toNat] (S.set r (rowO sc i' j' k')) := by
    show ((((bLen [th] (S.set r (rowO sc i j k))).bind fun x S1 => Res.ok [x] S1).bind fun xs S2 => Res.ok (D.obj r :: xs) S2).bind fun ds S1 => callN G (n + 1) t ds S1).bind (fun y S2 => ixD S2 th y) = _
    rw [ln _ (hth _ _ _)]
    show (callN G (n + 1) t [.obj r, .int ds.length] (S.set r (rowO sc i j k))).bind (fun y S2 => ixD S2 th y) = _
    rw [e4]
    exact ixs _ (hth _ _ _)
  unfold runB
  show (match exs (parN G (n + 1)) (pickB t) [some (.obj r), some th] (S.set r (rowO sc i j k)) with
    | .ok (.nx _) S' => Res.ok D.non S'
    | .ok (.rt v) S' => .ok v S'
    | .ok _ _ => .no
    | .er e S' => .er e S'
    | .no => .no) = _
  unfold pickB
  rw [exs_rt (ex_ret hcall)]
end
end Pi

set_option Elab.async false
set_option linter.all false
set_option maxRecDepth 100000
set_option maxHeartbeats 4000000
namespace Pi
open PySem L2
/-- a loop over a range by an invariant -/
theorem for_inv {body : Env → Sto → Res Fl} {v n : Nat} {lo : Int} {I : Env → Sto → Prop} (hI : ∀ (i : Nat) ρ S, I ρ S → ∃ ρ' S', I ρ' S' ∧ body (ρ.set v (some (.int (lo + i)))) S = .ok (.nx ρ') S') :
    ∀ (f i : Nat) ρ S, i ≤ n → n - i < f → I ρ S → ∃ ρ' S', I ρ' S' ∧ forLoop (.rng lo n) (.one v) body f i ρ S = .ok (.nx ρ') S'
  | 0, i, ρ, S, h1, h2, h => by omega
  | f + 1, i, ρ, S, h1, h2, h => by
    by_cases hi : i < n
    · obtain ⟨ρ1, S1, g1, g2⟩ := hI i ρ S h
      obtain ⟨ρ2, S2, g3, g4⟩ := for_inv (n := n) (lo := lo) hI f (i + 1) ρ1 S1 (by omega) (by omega) g1
      refine ⟨ρ2, S2, g3, ?_⟩
      show (match (some (if i < n then some (D.int (lo + i)) else none) : Option (Option D)) with
        | none => (Res.no : Res Fl)
        | some none => Res.ok (Fl.nx ρ) S
        | some (some d) => (match setT ρ (.one v) d with
          | none => .no
          | some ρ1 => (body ρ1 S).bind fun fl S1 => (match fl with
            | .nx ρ2 => forLoop (.rng lo n) (.one v) body f (i + 1) ρ2 S1
            | .ct ρ2 => forLoop (.rng lo n) (.one v) body f (i + 1) ρ2 S1
            | .bk ρ2 => .ok (.nx ρ2) S1
            | .rt d => .ok (.rt d) S1))) = _
      rw [if_pos hi]
      show ((body (ρ.set v (some (.int (lo + i)))) S).bind fun fl S1 => (match fl with
            | .nx ρ2 => forLoop (.rng lo n) (.one v) body f (i + 1) ρ2 S1
            | .ct ρ2 => forLoop (.rng lo n) (.one v) body f (i + 1) ρ2 S1
            | .bk ρ2 => Res.ok (Fl.nx ρ2) S1
            | .rt d => Res.ok (Fl.rt d) S1)) = _
      rw [g2]
      exact g4
    · refine ⟨ρ, S, h, ?_⟩
      show (match (some (if i < n then some (D.int (lo + i)) else none) : Option (Option D)) with
        | none => (Res.no : Res Fl)
        | some none => Res.ok (Fl.nx ρ) S
        | some (some d) => (match setT ρ (.one v) d with
          | none => .no
          | some ρ1 => (body ρ1 S).bind fun fl S1 => (match fl with
            | .nx ρ2 => forLoop (.rng lo n) (.one v) body f (i + 1) ρ2 S1
            | .ct ρ2 => forLoop (.rng lo n) (.one v) body f (i + 1) ρ2 S1
            | .bk ρ2 => .ok (.nx ρ2) S1
            | .rt d => .ok (.rt d) S1))) = _
      rw [if_neg hi]
section
variable {G : Prg} {r : Nat} {sc th : D} {ns : List Int} {i j k : Int} {S : Sto} {ds : List D} {t p : Str} {ρ : Env}
/-- u, v = pick(row, tries); if tst: return False -/
theorem turn_ok (hp : G.fns p = some ⟨2, 2, pickB t⟩) (hd : G.fns t = some ⟨2, 4, takenB⟩) (n a b e : Nat) (tst : E) (h1 : getV ρ 1 = some (.obj r)) (h3 : getV ρ e = some th) (hr : r < S.length) (hsc : ∀ i j k, seqOf (S.set r (rowO sc i j k)) sc = some (ns.map .int)) (hl : ns.length ≤ 63) (hi : 0 ≤ i)
    (hth : ∀ i j k, seqOf (S.set r (rowO sc i j k)) th = some ds) (h0 : ds ≠ []) (h2 : ds.length < 1073741824) (hx : ∀ x ∈ ds, ∃ u v, x = .tup [u, v] ∧ ∀ S, ev (parN G (n + 2)) tst ((ρ.set a (some u)).set b (some v)) S = .ok (.bl false) S) :
    ∃ u v i' j' k', 0 ≤ i' ∧ exs (parN G (n + 2)) (.cons (.asg (.tup [a, b]) (.call p (.cons (.var 1) (.cons (.var e) .nil)))) (.cons (.ife tst (.cons (.ret (.c (.bl false))) .nil) .nil) .nil)) ρ (S.set r (rowO sc i j k)) = .ok (.nx ((ρ.set a (some u)).set b (some v))) (S.set r (rowO sc i' j' k')) := by
  obtain ⟨q, x, i', j', k', e1, e2, e3⟩ := pick_call (k := k) (j := j) hp hd n hr hsc hl hi hth h0 h2
  obtain ⟨u, v, rfl, ht⟩ := hx x (List.mem_of_getElem? e1)
  refine ⟨u, v, i', j', k', e2, ?_⟩
  have hc : ex (parN G (n + 2)) (.asg (.tup [a, b]) (.call p (.cons (.var 1) (.cons (.var e) .nil)))) ρ (S.set r (rowO sc i j k)) = .ok (.nx ((ρ.set a (some u)).set b (some v))) (S.set r (rowO sc i' j' k')) := by
    show (((okO (getV ρ 1) (S.set r (rowO sc i j k))).bind fun x S1 => ((okO (getV ρ e) S1).bind fun y S2 => Res.ok [y] S2).bind fun xs S2 => Res.ok (x :: xs) S2).bind fun ds S1 => callN G (n + 2) p ds S1).bind (fun d S1 => nxO (setT ρ (.tup [a, b]) d) S1) = _
    rw [h1]
    show ((((okO (getV ρ e) (S.set r (rowO sc i j k))).bind fun y S2 => Res.ok [y] S2).bind fun xs S2 => Res.ok (D.obj r :: xs) S2).bind fun ds S1 => callN G (n + 2) p ds S1).bind (fun d S1 => nxO (setT ρ (.tup [a, b]) d) S1) = _
    rw [h3]
    show (callN G (n + 2) p [.obj r, th] (S.set r (rowO sc i j k))).bind (fun d S1 => nxO (setT ρ (.tup [a, b]) d) S1) = _
    rw [e3]
    rfl
  rw [exs_nx hc, exs_nx (by rw [ex_if (ht _)]; rfl)]
  rfl
end
end Pi

set_option Elab.async false
set_option linter.all false
set_option maxRecDepth 100000
set_option maxHeartbeats 0
namespace K44
open PySem PySem.Spec PyProof.Rows L2 Pi PiX
abbrev prog : Program := PySem.Challenge.pw_parkback_k44_texts_refused
def top (i : Nat) : Stmt := prog.main.body.getD i (.Pass ⟨0, 0, 0, 0⟩)
def gt0 : List (Str × GK) := [(("is_integer" : Str), GK.fn 1), (("is_in" : Str), GK.fn 3), (("is_list" : Str), GK.fn 3), (("has_room" : Str), GK.fn 2), (("need_street" : Str), GK.fn 1), (("need_places" : Str), GK.fn 2), (("need_state" : Str), GK.fn 2), (("need_calls" : Str), GK.fn 2), (("number_of" : Str), GK.fn 3), (("words_of" : Str), GK.fn 1), (("need_text" : Str), GK.fn 1), (("write_street" : Str), GK.fn 1), (("street_of_words" : Str), GK.fn 2), (("read_street" : Str), GK.fn 1), (("write_state" : Str), GK.fn 2), (("state_of_words" : Str), GK.fn 3), (("read_state" : Str), GK.fn 2), (("write_calls" : Str), GK.fn 2), (("read_calls" : Str), GK.fn 2), (("picture" : Str), GK.fn 2), (("read_picture" : Str), GK.fn 2), (("_law_taken" : Str), GK.fn 2), (("_law_pick" : Str), GK.fn 2), (("_law_told" : Str), GK.told), (("StreetError" : Str), GK.cls 0), (("BadStreet" : Str), GK.cls 0), (("NotText" : Str), GK.cls 0), (("BadState" : Str), GK.cls 1), (("BadCalls" : Str), GK.cls 1), (("InvalidText" : Str), GK.cls 2), (("MOST_PLACES" : Str), GK.val), (("MOST_CARS" : Str), GK.val), (("MOST_CALLS" : Str), GK.val), (("DIGITS" : Str), GK.val)]
def cb (N : List Str) (st : Stmt) (lm : Bool) : Ss := (cSs 60 (csD N st gt0 lm) (defBody st)).getD .nil
theorem cb_ok {N : List Str} {st : Stmt} {lm : Bool} (h : (cSs 60 (csD N st gt0 lm) (defBody st)).isSome = true) : cSs 60 (csD N st gt0 lm) (defBody st) = some (cb N st lm) := by
  unfold cb
  obtain ⟨v, e⟩ := Option.isSome_iff_exists.mp h
  rw [e]
  rfl
def n_is_integer : List Str := ["value"]
def i_is_integer : FnI := ⟨"is_integer", top 1, n_is_integer, ["value"], ⟨1, 1, cb n_is_integer (top 1) false⟩⟩
theorem s_is_integer : FnS gt0 false i_is_integer := ⟨⟨rfl, rfl, rfl, by decide +kernel, rfl, by decide +kernel, by decide +kernel⟩, rfl, rfl, cb_ok (by decide +kernel), fun _ _ _ _ _ _ us hl => match us, hl with | [_], _ => rfl⟩
def n_is_in : List Str := ["value", "least", "most"]
def i_is_in : FnI := ⟨"is_in", top 2, n_is_in, ["value", "least", "most"], ⟨3, 3, cb n_is_in (top 2) false⟩⟩
theorem s_is_in : FnS gt0 false i_is_in := ⟨⟨rfl, rfl, rfl, by decide +kernel, rfl, by decide +kernel, by decide +kernel⟩, rfl, rfl, cb_ok (by decide +kernel), fun _ _ _ _ _ _ us hl => match us, hl with | [_, _, _], _ => rfl⟩
def n_is_list : List Str := ["value", "least", "most"]
def i_is_list : FnI := ⟨"is_list", top 3, n_is_list, ["value", "least", "most"], ⟨3, 3, cb n_is_list (top 3) false⟩⟩
theorem s_is_list : FnS gt0 false i_is_list := ⟨⟨rfl, rfl, rfl, by decide +kernel, rfl, by decide +kernel, by decide +kernel⟩, rfl, rfl, cb_ok (by decide +kernel), fun _ _ _ _ _ _ us hl => match us, hl with | [_, _, _], _ => rfl⟩
def n_has_room : List Str := ["places", "homes", "place", "home"]
def i_has_room : FnI := ⟨"has_room", top 14, n_has_room, ["places", "homes"], ⟨2, 4, cb n_has_room (top 14) false⟩⟩
theorem s_has_room : FnS gt0 false i_has_room := ⟨⟨rfl, rfl, rfl, by decide +kernel, rfl, by decide +kernel, by decide +kernel⟩, rfl, rfl, cb_ok (by decide +kernel), fun _ _ _ _ _ _ us hl => match us, hl with | [_, _], _ => rfl⟩
def n_need_street : List Str := ["street", "home"]
def i_need_street : FnI := ⟨"need_street", top 15, n_need_street, ["street"], ⟨1, 2, cb n_need_street (top 15) false⟩⟩
theorem s_need_street : FnS gt0 false i_need_street := ⟨⟨rfl, rfl, rfl, by decide +kernel, rfl, by decide +kernel, by decide +kernel⟩, rfl, rfl, cb_ok (by decide +kernel), fun _ _ _ _ _ _ us hl => match us, hl with | [_], _ => rfl⟩
def n_need_places : List Str := ["street", "state", "places", "homes", "index", "place"]
def i_need_places : FnI := ⟨"need_places", top 16, n_need_places, ["street", "state"], ⟨2, 6, cb n_need_places (top 16) false⟩⟩
theorem s_need_places : FnS gt0 false i_need_places := ⟨⟨rfl, rfl, rfl, by decide +kernel, rfl, by decide +kernel, by decide +kernel⟩, rfl, rfl, cb_ok (by decide +kernel), fun _ _ _ _ _ _ us hl => match us, hl with | [_, _], _ => rfl⟩
def n_need_state : List Str := ["street", "state"]
def i_need_state : FnI := ⟨"need_state", top 17, n_need_state, ["street", "state"], ⟨2, 2, cb n_need_state (top 17) false⟩⟩
theorem s_need_state : FnS gt0 false i_need_state := ⟨⟨rfl, rfl, rfl, by decide +kernel, rfl, by decide +kernel, by decide +kernel⟩, rfl, rfl, cb_ok (by decide +kernel), fun _ _ _ _ _ _ us hl => match us, hl with | [_, _], _ => rfl⟩
def n_need_calls : List Str := ["street", "calls", "index", "car"]
def i_need_calls : FnI := ⟨"need_calls", top 20, n_need_calls, ["street", "calls"], ⟨2, 4, cb n_need_calls (top 20) false⟩⟩
theorem s_need_calls : FnS gt0 false i_need_calls := ⟨⟨rfl, rfl, rfl, by decide +kernel, rfl, by decide +kernel, by decide +kernel⟩, rfl, rfl, cb_ok (by decide +kernel), fun _ _ _ _ _ _ us hl => match us, hl with | [_, _], _ => rfl⟩
def n_number_of : List Str := ["word", "least", "most", "one"]
def i_number_of : FnI := ⟨"number_of", top 23, n_number_of, ["word", "least", "most"], ⟨3, 4, cb n_number_of (top 23) false⟩⟩
theorem s_number_of : FnS gt0 false i_number_of := ⟨⟨rfl, rfl, rfl, by decide +kernel, rfl, by decide +kernel, by decide +kernel⟩, rfl, rfl, cb_ok (by decide +kernel), fun _ _ _ _ _ _ us hl => match us, hl with | [_, _, _], _ => rfl⟩
def n_words_of : List Str := ["text", "word"]
def i_words_of : FnI := ⟨"words_of", top 24, n_words_of, ["text"], ⟨1, 2, cb n_words_of (top 24) false⟩⟩
theorem s_words_of : FnS gt0 false i_words_of := ⟨⟨rfl, rfl, rfl, by decide +kernel, rfl, by decide +kernel, by decide +kernel⟩, rfl, rfl, cb_ok (by decide +kernel), fun _ _ _ _ _ _ us hl => match us, hl with | [_], _ => rfl⟩
def n_need_text : List Str := ["text"]
def i_need_text : FnI := ⟨"need_text", top 25, n_need_text, ["text"], ⟨1, 1, cb n_need_text (top 25) false⟩⟩
theorem s_need_text : FnS gt0 false i_need_text := ⟨⟨rfl, rfl, rfl, by decide +kernel, rfl, by decide +kernel, by decide +kernel⟩, rfl, rfl, cb_ok (by decide +kernel), fun _ _ _ _ _ _ us hl => match us, hl with | [_], _ => rfl⟩
def n_write_street : List Str := ["street", "one"]
def i_write_street : FnI := ⟨"write_street", top 26, n_write_street, ["street"], ⟨1, 2, cb n_write_street (top 26) false⟩⟩
theorem s_write_street : FnS gt0 false i_write_street := ⟨⟨rfl, rfl, rfl, by decide +kernel, rfl, by decide +kernel, by decide +kernel⟩, rfl, rfl, cb_ok (by decide +kernel), fun _ _ _ _ _ _ us hl => match us, hl with | [_], _ => rfl⟩
def n_street_of_words : List Str := ["words", "first", "places", "homes", "at", "home"]
def i_street_of_words : FnI := ⟨"street_of_words", top 27, n_street_of_words, ["words", "first"], ⟨2, 6, cb n_street_of_words (top 27) false⟩⟩
theorem s_street_of_words : FnS gt0 false i_street_of_words := ⟨⟨rfl, rfl, rfl, by decide +kernel, rfl, by decide +kernel, by decide +kernel⟩, rfl, rfl, cb_ok (by decide +kernel), fun _ _ _ _ _ _ us hl => match us, hl with | [_, _], _ => rfl⟩
def n_read_street : List Str := ["text"]
def i_read_street : FnI := ⟨"read_street", top 28, n_read_street, ["text"], ⟨1, 1, cb n_read_street (top 28) false⟩⟩
theorem s_read_street : FnS gt0 false i_read_street := ⟨⟨rfl, rfl, rfl, by decide +kernel, rfl, by decide +kernel, by decide +kernel⟩, rfl, rfl, cb_ok (by decide +kernel), fun _ _ _ _ _ _ us hl => match us, hl with | [_], _ => rfl⟩
def n_write_state : List Str := ["street", "state", "place"]
def i_write_state : FnI := ⟨"write_state", top 29, n_write_state, ["street", "state"], ⟨2, 3, cb n_write_state (top 29) false⟩⟩
theorem s_write_state : FnS gt0 false i_write_state := ⟨⟨rfl, rfl, rfl, by decide +kernel, rfl, by decide +kernel, by decide +kernel⟩, rfl, rfl, cb_ok (by decide +kernel), fun _ _ _ _ _ _ us hl => match us, hl with | [_, _], _ => rfl⟩
def n_state_of_words : List Str := ["street", "words", "first", "found", "car", "home", "at", "place"]
def i_state_of_words : FnI := ⟨"state_of_words", top 30, n_state_of_words, ["street", "words", "first"], ⟨3, 8, cb n_state_of_words (top 30) false⟩⟩
theorem s_state_of_words : FnS gt0 false i_state_of_words := ⟨⟨rfl, rfl, rfl, by decide +kernel, rfl, by decide +kernel, by decide +kernel⟩, rfl, rfl, cb_ok (by decide +kernel), fun _ _ _ _ _ _ us hl => match us, hl with | [_, _, _], _ => rfl⟩
def n_read_state : List Str := ["street", "text"]
def i_read_state : FnI := ⟨"read_state", top 31, n_read_state, ["street", "text"], ⟨2, 2, cb n_read_state (top 31) false⟩⟩
theorem s_read_state : FnS gt0 false i_read_state := ⟨⟨rfl, rfl, rfl, by decide +kernel, rfl, by decide +kernel, by decide +kernel⟩, rfl, rfl, cb_ok (by decide +kernel), fun _ _ _ _ _ _ us hl => match us, hl with | [_, _], _ => rfl⟩
def n_write_calls : List Str := ["street", "calls", "car"]
def i_write_calls : FnI := ⟨"write_calls", top 32, n_write_calls, ["street", "calls"], ⟨2, 3, cb n_write_calls (top 32) false⟩⟩
theorem s_write_calls : FnS gt0 false i_write_calls := ⟨⟨rfl, rfl, rfl, by decide +kernel, rfl, by decide +kernel, by decide +kernel⟩, rfl, rfl, cb_ok (by decide +kernel), fun _ _ _ _ _ _ us hl => match us, hl with | [_, _], _ => rfl⟩
def n_read_calls : List Str := ["street", "text", "found", "place", "word", "car"]
def i_read_calls : FnI := ⟨"read_calls", top 33, n_read_calls, ["street", "text"], ⟨2, 6, cb n_read_calls (top 33) false⟩⟩
theorem s_read_calls : FnS gt0 false i_read_calls := ⟨⟨rfl, rfl, rfl, by decide +kernel, rfl, by decide +kernel, by decide +kernel⟩, rfl, rfl, cb_ok (by decide +kernel), fun _ _ _ _ _ _ us hl => match us, hl with | [_, _], _ => rfl⟩
def n_picture : List Str := ["street", "state", "place"]
def i_picture : FnI := ⟨"picture", top 34, n_picture, ["street", "state"], ⟨2, 3, cb n_picture (top 34) false⟩⟩
theorem s_picture : FnS gt0 false i_picture := ⟨⟨rfl, rfl, rfl, by decide +kernel, rfl, by decide +kernel, by decide +kernel⟩, rfl, rfl, cb_ok (by decide +kernel), fun _ _ _ _ _ _ us hl => match us, hl with | [_, _], _ => rfl⟩
def n_read_picture : List Str := ["street", "text", "place", "words", "found", "word", "car"]
def i_read_picture : FnI := ⟨"read_picture", top 35, n_read_picture, ["street", "text"], ⟨2, 7, cb n_read_picture (top 35) false⟩⟩
theorem s_read_picture : FnS gt0 false i_read_picture := ⟨⟨rfl, rfl, rfl, by decide +kernel, rfl, by decide +kernel, by decide +kernel⟩, rfl, rfl, cb_ok (by decide +kernel), fun _ _ _ _ _ _ us hl => match us, hl with | [_, _], _ => rfl⟩
def n_law_taken : List Str := ["_law_row", "_law_many", "_law_cell", "_law_found"]
def i_law_taken : FnI := ⟨"_law_taken", top 37, n_law_taken, ["_law_row", "_law_many"], ⟨2, 4, cb n_law_taken (top 37) false⟩⟩
theorem s_law_taken : FnS gt0 false i_law_taken := ⟨⟨rfl, rfl, rfl, by decide +kernel, rfl, by decide +kernel, by decide +kernel⟩, rfl, rfl, cb_ok (by decide +kernel), fun _ _ _ _ _ _ us hl => match us, hl with | [_, _], _ => rfl⟩
def n_law_pick : List Str := ["_law_row", "_law_things"]
def i_law_pick : FnI := ⟨"_law_pick", top 38, n_law_pick, ["_law_row", "_law_things"], ⟨2, 2, cb n_law_pick (top 38) false⟩⟩
theorem s_law_pick : FnS gt0 false i_law_pick := ⟨⟨rfl, rfl, rfl, by decide +kernel, rfl, by decide +kernel, by decide +kernel⟩, rfl, rfl, cb_ok (by decide +kernel), fun _ _ _ _ _ _ us hl => match us, hl with | [_, _], _ => rfl⟩
def n_law : List Str := ["_law_script", "_law_row", "_law_street", "_law_tries", "_law_turn", "_law_none", "_law_found", "_law_text", "_law_word"]
def i_law : FnI := ⟨"law", top 40, n_law, ["_law_script"], ⟨1, 9, cb n_law (top 40) true⟩⟩
theorem s_law : FnS gt0 true i_law := ⟨⟨rfl, rfl, rfl, by decide +kernel, rfl, by decide +kernel, by decide +kernel⟩, rfl, rfl, cb_ok (by decide +kernel), fun _ _ _ _ _ _ us hl => match us, hl with | [_], _ => rfl⟩
def trySuite (st : Stmt) : List Stmt := match defBody st with
  | .Try _ [.ExceptHandler _ _ b _] _ _ _ :: _ => b
  | _ => []
def n_told : List Str := ["_law_work", "e", "_law_known"]
def b_told : Ss := (cSs 60 (csT n_told (top 39) gt0) (trySuite (top 39))).getD .nil
theorem told_c : cSs 60 (csT n_told (top 39) gt0) (trySuite (top 39)) = some b_told := by
  unfold b_told
  obtain ⟨v, e⟩ := Option.isSome_iff_exists.mp (show (cSs 60 (csT n_told (top 39) gt0) (trySuite (top 39))).isSome = true by decide +kernel)
  rw [e]
  rfl
def c_BadState : ClI := ⟨"BadState", ["index"], inClass (top 7) 0, "BadState.__init__"⟩
def c_BadCalls : ClI := ⟨"BadCalls", ["index"], inClass (top 8) 0, "BadCalls.__init__"⟩
def c_InvalidText : ClI := ⟨"InvalidText", ["line", "word"], inClass (top 10) 0, "InvalidText.__init__"⟩
def mdl : Mdl := { P := prog, fl := [i_is_integer, i_is_in, i_is_list, i_has_room, i_need_street, i_need_places, i_need_state, i_need_calls, i_number_of, i_words_of, i_need_text, i_write_street, i_street_of_words, i_read_street, i_write_state, i_state_of_words, i_read_state, i_write_calls, i_read_calls, i_picture, i_read_picture, i_law_taken, i_law_pick], law := i_law, tx := "_law_told", tst := top 39, tN := n_told, tps := ["_law_work"], td := ⟨3, 1, "StreetError", b_told, .str ""⟩, pl := ["StreetError", "BadStreet", "NotText"], cl := [c_BadState, c_BadCalls, c_InvalidText], vals := [("MOST_PLACES", .int (12)), ("MOST_CARS", .int (7)), ("MOST_CALLS", .int (60)), ("DIGITS", .str "0123456789")], subs := [((("StreetError" : Str), ("StreetError" : Str)), true), ((("StreetError" : Str), ("BadStreet" : Str)), false), ((("StreetError" : Str), ("BadState" : Str)), false), ((("StreetError" : Str), ("BadCalls" : Str)), false), ((("StreetError" : Str), ("NotText" : Str)), false), ((("StreetError" : Str), ("InvalidText" : Str)), false), ((("BadStreet" : Str), ("StreetError" : Str)), true), ((("BadStreet" : Str), ("BadStreet" : Str)), true), ((("BadStreet" : Str), ("BadState" : Str)), false), ((("BadStreet" : Str), ("BadCalls" : Str)), false), ((("BadStreet" : Str), ("NotText" : Str)), false), ((("BadStreet" : Str), ("InvalidText" : Str)), false), ((("BadState" : Str), ("StreetError" : Str)), true), ((("BadState" : Str), ("BadStreet" : Str)), false), ((("BadState" : Str), ("BadState" : Str)), true), ((("BadState" : Str), ("BadCalls" : Str)), false), ((("BadState" : Str), ("NotText" : Str)), false), ((("BadState" : Str), ("InvalidText" : Str)), false), ((("BadCalls" : Str), ("StreetError" : Str)), true), ((("BadCalls" : Str), ("BadStreet" : Str)), false), ((("BadCalls" : Str), ("BadState" : Str)), false), ((("BadCalls" : Str), ("BadCalls" : Str)), true), ((("BadCalls" : Str), ("NotText" : Str)), false), ((("BadCalls" : Str), ("InvalidText" : Str)), false), ((("NotText" : Str), ("StreetError" : Str)), true), ((("NotText" : Str), ("BadStreet" : Str)), false), ((("NotText" : Str), ("BadState" : Str)), false), ((("NotText" : Str), ("BadCalls" : Str)), false), ((("NotText" : Str), ("NotText" : Str)), true), ((("NotText" : Str), ("InvalidText" : Str)), false), ((("InvalidText" : Str), ("StreetError" : Str)), true), ((("InvalidText" : Str), ("BadStreet" : Str)), false), ((("InvalidText" : Str), ("BadState" : Str)), false), ((("InvalidText" : Str), ("BadCalls" : Str)), false), ((("InvalidText" : Str), ("NotText" : Str)), false), ((("InvalidText" : Str), ("InvalidText" : Str)), true)], fuel := 4000 }
theorem gt_eq : mdl.gt = gt0 := rfl
theorem tolS : TolS mdl := by
  refine ⟨⟨rfl, rfl, rfl, by decide +kernel, rfl, by decide +kernel, by decide +kernel⟩, rfl, fun _ _ _ _ _ _ us hl => match us, hl with | [_], _ => rfl, by decide +kernel, ?_⟩
  refine ⟨_, _, _, _, _, _, _, _, _, _, _, _, _, _, rfl, rfl, by decide +kernel, by decide +kernel, by decide +kernel, by decide +kernel, rfl, ?_, rfl⟩
  rw [gt_eq]
  exact told_c
theorem sc_BadState : InS1 prog c_BadState := ⟨_, _, _, _, _, _, _, _, _, _, _, _, rfl, rfl, rfl, by decide +kernel, rfl, by decide +kernel, fun _ _ _ _ _ _ _ _ _ _ => rfl⟩
theorem sc_BadCalls : InS1 prog c_BadCalls := ⟨_, _, _, _, _, _, _, _, _, _, _, _, rfl, rfl, rfl, by decide +kernel, rfl, by decide +kernel, fun _ _ _ _ _ _ _ _ _ _ => rfl⟩
theorem sc_InvalidText : InS2 prog c_InvalidText := ⟨_, _, _, _, _, _, _, _, _, _, _, _, _, _, _, _, _, _, rfl, rfl, rfl, by decide +kernel, by decide +kernel, by decide +kernel, rfl, by decide +kernel, fun _ _ _ _ _ _ _ _ _ _ _ => rfl⟩
theorem stat : MdlS mdl := by
  refine ⟨?_, ?_, ⟨_, rfl⟩, tolS, ?_, by rw [gt_eq]; decide +kernel⟩
  · rw [gt_eq]
    exact List.forall_mem_cons.mpr ⟨s_is_integer, List.forall_mem_cons.mpr ⟨s_is_in, List.forall_mem_cons.mpr ⟨s_is_list, List.forall_mem_cons.mpr ⟨s_has_room, List.forall_mem_cons.mpr ⟨s_need_street, List.forall_mem_cons.mpr ⟨s_need_places, List.forall_mem_cons.mpr ⟨s_need_state, List.forall_mem_cons.mpr ⟨s_need_calls, List.forall_mem_cons.mpr ⟨s_number_of, List.forall_mem_cons.mpr ⟨s_words_of, List.forall_mem_cons.mpr ⟨s_need_text, List.forall_mem_cons.mpr ⟨s_write_street, List.forall_mem_cons.mpr ⟨s_street_of_words, List.forall_mem_cons.mpr ⟨s_read_street, List.forall_mem_cons.mpr ⟨s_write_state, List.forall_mem_cons.mpr ⟨s_state_of_words, List.forall_mem_cons.mpr ⟨s_read_state, List.forall_mem_cons.mpr ⟨s_write_calls, List.forall_mem_cons.mpr ⟨s_read_calls, List.forall_mem_cons.mpr ⟨s_picture, List.forall_mem_cons.mpr ⟨s_read_picture, List.forall_mem_cons.mpr ⟨s_law_taken, List.forall_mem_cons.mpr ⟨s_law_pick, fun _ h => nomatch h⟩⟩⟩⟩⟩⟩⟩⟩⟩⟩⟩⟩⟩⟩⟩⟩⟩⟩⟩⟩⟩⟩⟩
  · rw [gt_eq]
    exact s_law
  · exact List.forall_mem_cons.mpr ⟨Or.inl sc_BadState, List.forall_mem_cons.mpr ⟨Or.inl sc_BadCalls, List.forall_mem_cons.mpr ⟨Or.inr sc_InvalidText, fun _ h => nomatch h⟩⟩⟩
abbrev R : PySem.W.OpenRow := PySem.W.OpenLaw.row PySem.Challenge.rw_parkback_k44_texts_refused
def loose0 : List Str := ["is_integer", "is_in", "is_list", "StreetError", "BadStreet", "BadState", "BadCalls", "NotText", "InvalidText", "MOST_PLACES", "MOST_CARS", "has_room", "need_street", "need_places", "need_state", "MOST_CALLS", "need_calls", "DIGITS", "number_of", "words_of", "need_text", "write_street", "street_of_words", "read_street", "write_state", "state_of_words", "read_state", "write_calls", "read_calls", "picture"]
def loose1 : List Str := ["read_picture", "_law_taken", "_law_pick", "_law_told"]
def loose : List Str := loose0 ++ loose1
def ob (s : PySem.W.SharedT) : He.AlX × List InV := obsP mdl 4 (HandSHeadRun.getT s)
theorem ob_eq (s : PySem.W.SharedT) : ob s = (hookP mdl 4).obs s.abs := obsP_eq (HandSHeadRun.getT_eq s)
theorem run (w : World) : HandSHeadRun.RunEq R (PySem.W.view R.prog [40]) (hookP mdl 4) ob 4000 loose w := by
  intro os
  kernel_rfl
end K44
open PySem PySem.W PySem.Calls PyProof.Rows in
theorem K44.holds (p : Pi.PlainOk K44.mdl 20 63) : PySem.Challenge.rw_parkback_k44_texts_refused.Holds := by
  w_on; o_law
  refine HandSHeadRun.head_any (r := (PySem.W.OpenLaw.row PySem.Challenge.rw_parkback_k44_texts_refused)) (q := PySem.W.view (PySem.W.OpenLaw.row PySem.Challenge.rw_parkback_k44_texts_refused).prog [40]) (H := Pi.hookP K44.mdl 4) (ob := K44.ob) (M := 4000) (loose := K44.loose) (d := HandSHeadRun.topDef (PySem.W.OpenLaw.row PySem.Challenge.rw_parkback_k44_texts_refused).prog 40) (kwd := []) K44.ob_eq
    (by kernel_rfl) (fun s => by kernel_rfl) K44.run (by kernel_rfl) (by kernel_rfl) (by kernel_rfl) (by rfl) (by first | assumption | decide +kernel) (by decide +kernel) ⟨rfl, rfl, rfl, rfl, rfl, by decide +kernel⟩ ?hw ?hc
  case hw => w_witness2
  case hc => exact Pi.law_holds (k := 40) rfl K44.stat (by decide +kernel) rfl p rfl (by decide) ⟨rfl, by decide, by decide⟩ (by kernel_rfl) (by kernel_rfl)


set_option Elab.async false
set_option linter.all false
set_option maxRecDepth 100000
set_option maxHeartbeats 0
namespace K44
open PySem L2 Pi
def w0 : Stm := (.asg (.one 1) (.lst (.cons (.var 0) (.cons (.c (.int 0)) (.cons (.c (.int 9044)) (.cons (.c (.int 0)) .nil))))))
def w1 : Stm := (.asg (.one 2) (.tup (.cons (.c (.int 4)) (.cons (.tup (.cons (.c (.int 0)) (.cons (.c (.int 2)) .nil))) .nil))))
def w2 : Stm := (.asg (.one 3) (.lst (.cons (.tup (.cons (.c (.str "")) (.cons (.c (.int 1)) .nil))) (.cons (.tup (.cons (.c (.str "0 0")) (.cons (.c (.int 1)) .nil))) (.cons (.tup (.cons (.c (.str "13 0")) (.cons (.c (.int 1)) .nil))) (.cons (.tup (.cons (.c (.str "4")) (.cons (.c (.int 2)) .nil))) (.cons (.tup (.cons (.c (.str "4 4")) (.cons (.c (.int 2)) .nil))) (.cons (.tup (.cons (.c (.str "4 0 x")) (.cons (.c (.int 3)) .nil))) (.cons (.tup (.cons (.c (.str "3 2 2")) (.cons (.c (.int 3)) .nil))) (.cons (.tup (.cons (.c (.str "2 0 0 0")) (.cons (.c (.int 4)) .nil))) (.cons (.tup (.cons (.c (.str "12 0 0 0 0 0 0 0 0")) (.cons (.c (.int 9)) .nil))) (.cons (.tup (.cons (.c (.str "04 0")) (.cons (.c (.int 1)) .nil))) (.cons (.tup (.cons (.c (.str "4 00")) (.cons (.c (.int 2)) .nil))) (.cons (.tup (.cons (.c (.str "4, 0")) (.cons (.c (.int 1)) .nil))) (.cons (.tup (.cons (.c (.str "-4 0")) (.cons (.c (.int 1)) .nil))) .nil)))))))))))))))
def w3b : Ss := (.cons (.asg (.tup [7, 8]) (.call "_law_pick" (.cons (.var 1) (.cons (.var 3) .nil)))) (.cons (.ife (.cmp .NotEq (.told "_law_told" (.call "read_street" (.cons (.var 7) .nil))) (.tup (.cons (.c (.int 1)) (.cons (.var 8) .nil)))) (.cons (.ret (.c (.bl false))) .nil) .nil) .nil))
def w3 : Stm := .for_ (.one 4) (.rng (.cons (.c (.int 3)) .nil)) w3b
def w4 : Stm := (.asg (.one 3) (.lst (.cons (.tup (.cons (.c (.str "")) (.cons (.c (.int 1)) .nil))) (.cons (.tup (.cons (.c (.str "0")) (.cons (.c (.int 2)) .nil))) (.cons (.tup (.cons (.c (.str "0 1")) (.cons (.c (.int 2)) .nil))) (.cons (.tup (.cons (.c (.str "2 2")) (.cons (.c (.int 2)) .nil))) (.cons (.tup (.cons (.c (.str "0 4")) (.cons (.c (.int 2)) .nil))) (.cons (.tup (.cons (.c (.str "0 2 3")) (.cons (.c (.int 3)) .nil))) (.cons (.tup (.cons (.c (.str "x 2")) (.cons (.c (.int 1)) .nil))) (.cons (.tup (.cons (.c (.str "0 02")) (.cons (.c (.int 2)) .nil))) (.cons (.tup (.cons (.c (.str "4 2")) (.cons (.c (.int 1)) .nil))) .nil)))))))))))
def w5b : Ss := (.cons (.asg (.tup [7, 8]) (.call "_law_pick" (.cons (.var 1) (.cons (.var 3) .nil)))) (.cons (.ife (.cmp .NotEq (.told "_law_told" (.call "read_state" (.cons (.var 2) (.cons (.var 7) .nil)))) (.tup (.cons (.c (.int 1)) (.cons (.var 8) .nil)))) (.cons (.ret (.c (.bl false))) .nil) .nil) .nil))
def w5 : Stm := .for_ (.one 4) (.rng (.cons (.c (.int 3)) .nil)) w5b
def w6 : Stm := (.asg (.one 3) (.lst (.cons (.tup (.cons (.c (.str "")) (.cons (.c (.int 1)) .nil))) (.cons (.tup (.cons (.c (.str "0 . 1")) (.cons (.c (.int 4)) .nil))) (.cons (.tup (.cons (.c (.str "0 1 . .")) (.cons (.c (.int 2)) .nil))) (.cons (.tup (.cons (.c (.str "0 . 0 .")) (.cons (.c (.int 3)) .nil))) (.cons (.tup (.cons (.c (.str "0 . . .")) (.cons (.c (.int 5)) .nil))) (.cons (.tup (.cons (.c (.str "0 . 1 . .")) (.cons (.c (.int 5)) .nil))) (.cons (.tup (.cons (.c (.str ". . 2 .")) (.cons (.c (.int 3)) .nil))) (.cons (.tup (.cons (.c (.str "0 . x .")) (.cons (.c (.int 3)) .nil))) (.cons (.tup (.cons (.c (.str ". . . .")) (.cons (.c (.int 5)) .nil))) (.cons (.tup (.cons (.c (.str "00 . 1 .")) (.cons (.c (.int 1)) .nil))) (.cons (.tup (.cons (.c (.str "0 .. 1 .")) (.cons (.c (.int 2)) .nil))) .nil)))))))))))))
def w7b : Ss := (.cons (.asg (.tup [7, 8]) (.call "_law_pick" (.cons (.var 1) (.cons (.var 3) .nil)))) (.cons (.ife (.cmp .NotEq (.told "_law_told" (.call "read_picture" (.cons (.var 2) (.cons (.var 7) .nil)))) (.tup (.cons (.c (.int 1)) (.cons (.var 8) .nil)))) (.cons (.ret (.c (.bl false))) .nil) .nil) .nil))
def w7 : Stm := .for_ (.one 4) (.rng (.cons (.c (.int 3)) .nil)) w7b
def w8 : Stm := (.asg (.one 3) (.lst (.cons (.tup (.cons (.c (.str "2")) (.cons (.c (.int 1)) .nil))) (.cons (.tup (.cons (.c (.str "0 1 x")) (.cons (.c (.int 3)) .nil))) (.cons (.tup (.cons (.c (.str "0 -1")) (.cons (.c (.int 2)) .nil))) (.cons (.tup (.cons (.bin .Add (.bin .Mult (.c (.str "0 ")) (.c (.int 60))) (.c (.str "1"))) (.cons (.c (.int 61)) .nil))) (.cons (.tup (.cons (.c (.str "00")) (.cons (.c (.int 1)) .nil))) (.cons (.tup (.cons (.c (.str ".")) (.cons (.c (.int 1)) .nil))) .nil))))))))
def w9b : Ss := (.cons (.asg (.tup [7, 8]) (.call "_law_pick" (.cons (.var 1) (.cons (.var 3) .nil)))) (.cons (.ife (.cmp .NotEq (.told "_law_told" (.call "read_calls" (.cons (.var 2) (.cons (.var 7) .nil)))) (.tup (.cons (.c (.int 1)) (.cons (.var 8) .nil)))) (.cons (.ret (.c (.bl false))) .nil) .nil) .nil))
def w9 : Stm := .for_ (.one 4) (.rng (.cons (.c (.int 3)) .nil)) w9b
def w10 : Stm := (.asg (.one 5) (.call "_law_pick" (.cons (.var 1) (.cons (.lst (.cons (.c .non) (.cons (.c (.int 5)) (.cons (.lst (.cons (.c (.str "0")) .nil)) (.cons (.tup .nil) .nil))))) .nil))))
def w11 : Stm := (.asg (.one 6) (.lst (.cons (.told "_law_told" (.call "read_street" (.cons (.var 5) .nil))) .nil)))
def w12 : Stm := (.asg (.one 6) (.bin .Add (.var 6) (.lst (.cons (.told "_law_told" (.call "read_state" (.cons (.var 2) (.cons (.var 5) .nil)))) .nil))))
def w13 : Stm := (.asg (.one 6) (.bin .Add (.var 6) (.lst (.cons (.told "_law_told" (.call "read_picture" (.cons (.var 2) (.cons (.var 5) .nil)))) .nil))))
def w14 : Stm := (.asg (.one 6) (.bin .Add (.var 6) (.lst (.cons (.told "_law_told" (.call "read_calls" (.cons (.var 5) (.cons (.var 5) .nil)))) .nil))))
def w15 : Stm := (.asg (.one 6) (.bin .Add (.var 6) (.lst (.cons (.told "_law_told" (.call "write_street" (.cons (.var 5) .nil))) .nil))))
def w16 : Stm := (.asg (.one 6) (.bin .Add (.var 6) (.lst (.cons (.told "_law_told" (.call "write_state" (.cons (.var 2) (.cons (.var 5) .nil)))) .nil))))
def w17 : Stm := (.asg (.one 6) (.bin .Add (.var 6) (.lst (.cons (.told "_law_told" (.call "picture" (.cons (.var 2) (.cons (.var 5) .nil)))) .nil))))
def w18 : Stm := (.asg (.one 6) (.bin .Add (.var 6) (.lst (.cons (.told "_law_told" (.call "write_calls" (.cons (.var 2) (.cons (.lst (.cons (.c (.int 0)) .nil)) .nil)))) .nil))))
def w19 : Stm := (.ret (.cmp .Eq (.var 6) (.lst (.cons (.c (.str "text")) (.cons (.c (.str "text")) (.cons (.c (.str "text")) (.cons (.c (.str "street")) (.cons (.c (.str "street")) (.cons (.c (.str "state")) (.cons (.c (.str "state")) (.cons (.c (.str "calls")) .nil)))))))))))
def wB : Ss := (.cons w0 (.cons w1 (.cons w2 (.cons w3 (.cons w4 (.cons w5 (.cons w6 (.cons w7 (.cons w8 (.cons w9 (.cons w10 (.cons w11 (.cons w12 (.cons w13 (.cons w14 (.cons w15 (.cons w16 (.cons w17 (.cons w18 (.cons w19 .nil))))))))))))))))))))
theorem wB_eq : i_law.d.body = wB := by rfl
end K44

set_option Elab.async false
set_option linter.all false
set_option maxRecDepth 100000
set_option maxHeartbeats 0
namespace K44
open PySem L2 Pi
abbrev P : Par := parN mdl.G 20
def tstOf : Ss → E
  | .cons _ (.cons (.ife t _ _) .nil) => t
  | _ => .var 0
def isT : Res Fl → Bool
  | .ok (.rt (.bl true)) _ => true
  | _ => false
theorem isT_ok {r : Res Fl} (h : isT r = true) : ∃ S, r = .ok (.rt (.bl true)) S := by
  unfold isT at h
  split at h
  · exact ⟨_, rfl⟩
  · cases h
def street : D := .tup [.int 4, .tup [.int 0, .int 2]]
def t0 : List D := [.tup [.str "", .int (1)], .tup [.str "0 0", .int (1)], .tup [.str "13 0", .int (1)], .tup [.str "4", .int (2)], .tup [.str "4 4", .int (2)], .tup [.str "4 0 x", .int (3)], .tup [.str "3 2 2", .int (3)], .tup [.str "2 0 0 0", .int (4)], .tup [.str "12 0 0 0 0 0 0 0 0", .int (9)], .tup [.str "04 0", .int (1)], .tup [.str "4 00", .int (2)], .tup [.str "4, 0", .int (1)], .tup [.str "-4 0", .int (1)]]
def t1 : List D := [.tup [.str "", .int (1)], .tup [.str "0", .int (2)], .tup [.str "0 1", .int (2)], .tup [.str "2 2", .int (2)], .tup [.str "0 4", .int (2)], .tup [.str "0 2 3", .int (3)], .tup [.str "x 2", .int (1)], .tup [.str "0 02", .int (2)], .tup [.str "4 2", .int (1)]]
def t2 : List D := [.tup [.str "", .int (1)], .tup [.str "0 . 1", .int (4)], .tup [.str "0 1 . .", .int (2)], .tup [.str "0 . 0 .", .int (3)], .tup [.str "0 . . .", .int (5)], .tup [.str "0 . 1 . .", .int (5)], .tup [.str ". . 2 .", .int (3)], .tup [.str "0 . x .", .int (3)], .tup [.str ". . . .", .int (5)], .tup [.str "00 . 1 .", .int (1)], .tup [.str "0 .. 1 .", .int (2)]]
def t3 : List D := [.tup [.str "2", .int (1)], .tup [.str "0 1 x", .int (3)], .tup [.str "0 -1", .int (2)], .tup [.str "0 0 0 0 0 0 0 0 0 0 0 0 0 0 0 0 0 0 0 0 0 0 0 0 0 0 0 0 0 0 0 0 0 0 0 0 0 0 0 0 0 0 0 0 0 0 0 0 0 0 0 0 0 0 0 0 0 0 0 0 1", .int (61)], .tup [.str "00", .int (1)], .tup [.str ".", .int (1)]]
theorem u0_0 (a b c e : Option D) (S : Sto) : ev P (tstOf w3b) [a, b, some street, c, e, none, none, some (.str ""), some (.int (1))] S = .ok (.bl false) S := by kernel_rfl
theorem u0_1 (a b c e : Option D) (S : Sto) : ev P (tstOf w3b) [a, b, some street, c, e, none, none, some (.str "0 0"), some (.int (1))] S = .ok (.bl false) S := by kernel_rfl
theorem u0_2 (a b c e : Option D) (S : Sto) : ev P (tstOf w3b) [a, b, some street, c, e, none, none, some (.str "13 0"), some (.int (1))] S = .ok (.bl false) S := by kernel_rfl
theorem u0_3 (a b c e : Option D) (S : Sto) : ev P (tstOf w3b) [a, b, some street, c, e, none, none, some (.str "4"), some (.int (2))] S = .ok (.bl false) S := by kernel_rfl
theorem u0_4 (a b c e : Option D) (S : Sto) : ev P (tstOf w3b) [a, b, some street, c, e, none, none, some (.str "4 4"), some (.int (2))] S = .ok (.bl false) S := by kernel_rfl
theorem u0_5 (a b c e : Option D) (S : Sto) : ev P (tstOf w3b) [a, b, some street, c, e, none, none, some (.str "4 0 x"), some (.int (3))] S = .ok (.bl false) S := by kernel_rfl
theorem u0_6 (a b c e : Option D) (S : Sto) : ev P (tstOf w3b) [a, b, some street, c, e, none, none, some (.str "3 2 2"), some (.int (3))] S = .ok (.bl false) S := by kernel_rfl
theorem u0_7 (a b c e : Option D) (S : Sto) : ev P (tstOf w3b) [a, b, some street, c, e, none, none, some (.str "2 0 0 0"), some (.int (4))] S = .ok (.bl false) S := by kernel_rfl
theorem u0_8 (a b c e : Option D) (S : Sto) : ev P (tstOf w3b) [a, b, some street, c, e, none, none, some (.str "12 0 0 0 0 0 0 0 0"), some (.int (9))] S = .ok (.bl false) S := by kernel_rfl
theorem u0_9 (a b c e : Option D) (S : Sto) : ev P (tstOf w3b) [a, b, some street, c, e, none, none, some (.str "04 0"), some (.int (1))] S = .ok (.bl false) S := by kernel_rfl
theorem u0_10 (a b c e : Option D) (S : Sto) : ev P (tstOf w3b) [a, b, some street, c, e, none, none, some (.str "4 00"), some (.int (2))] S = .ok (.bl false) S := by kernel_rfl
theorem u0_11 (a b c e : Option D) (S : Sto) : ev P (tstOf w3b) [a, b, some street, c, e, none, none, some (.str "4, 0"), some (.int (1))] S = .ok (.bl false) S := by kernel_rfl
theorem u0_12 (a b c e : Option D) (S : Sto) : ev P (tstOf w3b) [a, b, some street, c, e, none, none, some (.str "-4 0"), some (.int (1))] S = .ok (.bl false) S := by kernel_rfl
theorem a0 (a b c e x y : Option D) : ∀ z ∈ t0, ∃ u v, z = .tup [u, v] ∧ ∀ S, ev P (tstOf w3b) ((([a, b, some street, c, e, none, none, x, y] : Pi.Env).set 7 (some u)).set 8 (some v)) S = .ok (.bl false) S :=
  List.forall_mem_cons.mpr ⟨⟨_, _, rfl, fun S => u0_0 _ _ _ _ S⟩, List.forall_mem_cons.mpr ⟨⟨_, _, rfl, fun S => u0_1 _ _ _ _ S⟩, List.forall_mem_cons.mpr ⟨⟨_, _, rfl, fun S => u0_2 _ _ _ _ S⟩, List.forall_mem_cons.mpr ⟨⟨_, _, rfl, fun S => u0_3 _ _ _ _ S⟩, List.forall_mem_cons.mpr ⟨⟨_, _, rfl, fun S => u0_4 _ _ _ _ S⟩, List.forall_mem_cons.mpr ⟨⟨_, _, rfl, fun S => u0_5 _ _ _ _ S⟩, List.forall_mem_cons.mpr ⟨⟨_, _, rfl, fun S => u0_6 _ _ _ _ S⟩, List.forall_mem_cons.mpr ⟨⟨_, _, rfl, fun S => u0_7 _ _ _ _ S⟩, List.forall_mem_cons.mpr ⟨⟨_, _, rfl, fun S => u0_8 _ _ _ _ S⟩, List.forall_mem_cons.mpr ⟨⟨_, _, rfl, fun S => u0_9 _ _ _ _ S⟩, List.forall_mem_cons.mpr ⟨⟨_, _, rfl, fun S => u0_10 _ _ _ _ S⟩, List.forall_mem_cons.mpr ⟨⟨_, _, rfl, fun S => u0_11 _ _ _ _ S⟩, List.forall_mem_cons.mpr ⟨⟨_, _, rfl, fun S => u0_12 _ _ _ _ S⟩, fun _ h => nomatch h⟩⟩⟩⟩⟩⟩⟩⟩⟩⟩⟩⟩⟩
theorem u1_0 (a b c e : Option D) (S : Sto) : ev P (tstOf w5b) [a, b, some street, c, e, none, none, some (.str ""), some (.int (1))] S = .ok (.bl false) S := by kernel_rfl
theorem u1_1 (a b c e : Option D) (S : Sto) : ev P (tstOf w5b) [a, b, some street, c, e, none, none, some (.str "0"), some (.int (2))] S = .ok (.bl false) S := by kernel_rfl
theorem u1_2 (a b c e : Option D) (S : Sto) : ev P (tstOf w5b) [a, b, some street, c, e, none, none, some (.str "0 1"), some (.int (2))] S = .ok (.bl false) S := by kernel_rfl
theorem u1_3 (a b c e : Option D) (S : Sto) : ev P (tstOf w5b) [a, b, some street, c, e, none, none, some (.str "2 2"), some (.int (2))] S = .ok (.bl false) S := by kernel_rfl
theorem u1_4 (a b c e : Option D) (S : Sto) : ev P (tstOf w5b) [a, b, some street, c, e, none, none, some (.str "0 4"), some (.int (2))] S = .ok (.bl false) S := by kernel_rfl
theorem u1_5 (a b c e : Option D) (S : Sto) : ev P (tstOf w5b) [a, b, some street, c, e, none, none, some (.str "0 2 3"), some (.int (3))] S = .ok (.bl false) S := by kernel_rfl
theorem u1_6 (a b c e : Option D) (S : Sto) : ev P (tstOf w5b) [a, b, some street, c, e, none, none, some (.str "x 2"), some (.int (1))] S = .ok (.bl false) S := by kernel_rfl
theorem u1_7 (a b c e : Option D) (S : Sto) : ev P (tstOf w5b) [a, b, some street, c, e, none, none, some (.str "0 02"), some (.int (2))] S = .ok (.bl false) S := by kernel_rfl
theorem u1_8 (a b c e : Option D) (S : Sto) : ev P (tstOf w5b) [a, b, some street, c, e, none, none, some (.str "4 2"), some (.int (1))] S = .ok (.bl false) S := by kernel_rfl
theorem a1 (a b c e x y : Option D) : ∀ z ∈ t1, ∃ u v, z = .tup [u, v] ∧ ∀ S, ev P (tstOf w5b) ((([a, b, some street, c, e, none, none, x, y] : Pi.Env).set 7 (some u)).set 8 (some v)) S = .ok (.bl false) S :=
  List.forall_mem_cons.mpr ⟨⟨_, _, rfl, fun S => u1_0 _ _ _ _ S⟩, List.forall_mem_cons.mpr ⟨⟨_, _, rfl, fun S => u1_1 _ _ _ _ S⟩, List.forall_mem_cons.mpr ⟨⟨_, _, rfl, fun S => u1_2 _ _ _ _ S⟩, List.forall_mem_cons.mpr ⟨⟨_, _, rfl, fun S => u1_3 _ _ _ _ S⟩, List.forall_mem_cons.mpr ⟨⟨_, _, rfl, fun S => u1_4 _ _ _ _ S⟩, List.forall_mem_cons.mpr ⟨⟨_, _, rfl, fun S => u1_5 _ _ _ _ S⟩, List.forall_mem_cons.mpr ⟨⟨_, _, rfl, fun S => u1_6 _ _ _ _ S⟩, List.forall_mem_cons.mpr ⟨⟨_, _, rfl, fun S => u1_7 _ _ _ _ S⟩, List.forall_mem_cons.mpr ⟨⟨_, _, rfl, fun S => u1_8 _ _ _ _ S⟩, fun _ h => nomatch h⟩⟩⟩⟩⟩⟩⟩⟩⟩
theorem u2_0 (a b c e : Option D) (S : Sto) : ev P (tstOf w7b) [a, b, some street, c, e, none, none, some (.str ""), some (.int (1))] S = .ok (.bl false) S := by kernel_rfl
theorem u2_1 (a b c e : Option D) (S : Sto) : ev P (tstOf w7b) [a, b, some street, c, e, none, none, some (.str "0 . 1"), some (.int (4))] S = .ok (.bl false) S := by kernel_rfl
theorem u2_2 (a b c e : Option D) (S : Sto) : ev P (tstOf w7b) [a, b, some street, c, e, none, none, some (.str "0 1 . ."), some (.int (2))] S = .ok (.bl false) S := by kernel_rfl
theorem u2_3 (a b c e : Option D) (S : Sto) : ev P (tstOf w7b) [a, b, some street, c, e, none, none, some (.str "0 . 0 ."), some (.int (3))] S = .ok (.bl false) S := by kernel_rfl
theorem u2_4 (a b c e : Option D) (S : Sto) : ev P (tstOf w7b) [a, b, some street, c, e, none, none, some (.str "0 . . ."), some (.int (5))] S = .ok (.bl false) S := by kernel_rfl
theorem u2_5 (a b c e : Option D) (S : Sto) : ev P (tstOf w7b) [a, b, some street, c, e, none, none, some (.str "0 . 1 . ."), some (.int (5))] S = .ok (.bl false) S := by kernel_rfl
theorem u2_6 (a b c e : Option D) (S : Sto) : ev P (tstOf w7b) [a, b, some street, c, e, none, none, some (.str ". . 2 ."), some (.int (3))] S = .ok (.bl false) S := by kernel_rfl
theorem u2_7 (a b c e : Option D) (S : Sto) : ev P (tstOf w7b) [a, b, some street, c, e, none, none, some (.str "0 . x ."), some (.int (3))] S = .ok (.bl false) S := by kernel_rfl
theorem u2_8 (a b c e : Option D) (S : Sto) : ev P (tstOf w7b) [a, b, some street, c, e, none, none, some (.str ". . . ."), some (.int (5))] S = .ok (.bl false) S := by kernel_rfl
theorem u2_9 (a b c e : Option D) (S : Sto) : ev P (tstOf w7b) [a, b, some street, c, e, none, none, some (.str "00 . 1 ."), some (.int (1))] S = .ok (.bl false) S := by kernel_rfl
theorem u2_10 (a b c e : Option D) (S : Sto) : ev P (tstOf w7b) [a, b, some street, c, e, none, none, some (.str "0 .. 1 ."), some (.int (2))] S = .ok (.bl false) S := by kernel_rfl
theorem a2 (a b c e x y : Option D) : ∀ z ∈ t2, ∃ u v, z = .tup [u, v] ∧ ∀ S, ev P (tstOf w7b) ((([a, b, some street, c, e, none, none, x, y] : Pi.Env).set 7 (some u)).set 8 (some v)) S = .ok (.bl false) S :=
  List.forall_mem_cons.mpr ⟨⟨_, _, rfl, fun S => u2_0 _ _ _ _ S⟩, List.forall_mem_cons.mpr ⟨⟨_, _, rfl, fun S => u2_1 _ _ _ _ S⟩, List.forall_mem_cons.mpr ⟨⟨_, _, rfl, fun S => u2_2 _ _ _ _ S⟩, List.forall_mem_cons.mpr ⟨⟨_, _, rfl, fun S => u2_3 _ _ _ _ S⟩, List.forall_mem_cons.mpr ⟨⟨_, _, rfl, fun S => u2_4 _ _ _ _ S⟩, List.forall_mem_cons.mpr ⟨⟨_, _, rfl, fun S => u2_5 _ _ _ _ S⟩, List.forall_mem_cons.mpr ⟨⟨_, _, rfl, fun S => u2_6 _ _ _ _ S⟩, List.forall_mem_cons.mpr ⟨⟨_, _, rfl, fun S => u2_7 _ _ _ _ S⟩, List.forall_mem_cons.mpr ⟨⟨_, _, rfl, fun S => u2_8 _ _ _ _ S⟩, List.forall_mem_cons.mpr ⟨⟨_, _, rfl, fun S => u2_9 _ _ _ _ S⟩, List.forall_mem_cons.mpr ⟨⟨_, _, rfl, fun S => u2_10 _ _ _ _ S⟩, fun _ h => nomatch h⟩⟩⟩⟩⟩⟩⟩⟩⟩⟩⟩
theorem u3_0 (a b c e : Option D) (S : Sto) : ev P (tstOf w9b) [a, b, some street, c, e, none, none, some (.str "2"), some (.int (1))] S = .ok (.bl false) S := by kernel_rfl
theorem u3_1 (a b c e : Option D) (S : Sto) : ev P (tstOf w9b) [a, b, some street, c, e, none, none, some (.str "0 1 x"), some (.int (3))] S = .ok (.bl false) S := by kernel_rfl
theorem u3_2 (a b c e : Option D) (S : Sto) : ev P (tstOf w9b) [a, b, some street, c, e, none, none, some (.str "0 -1"), some (.int (2))] S = .ok (.bl false) S := by kernel_rfl
theorem u3_3 (a b c e : Option D) (S : Sto) : ev P (tstOf w9b) [a, b, some street, c, e, none, none, some (.str "0 0 0 0 0 0 0 0 0 0 0 0 0 0 0 0 0 0 0 0 0 0 0 0 0 0 0 0 0 0 0 0 0 0 0 0 0 0 0 0 0 0 0 0 0 0 0 0 0 0 0 0 0 0 0 0 0 0 0 0 1"), some (.int (61))] S = .ok (.bl false) S := by kernel_rfl
theorem u3_4 (a b c e : Option D) (S : Sto) : ev P (tstOf w9b) [a, b, some street, c, e, none, none, some (.str "00"), some (.int (1))] S = .ok (.bl false) S := by kernel_rfl
theorem u3_5 (a b c e : Option D) (S : Sto) : ev P (tstOf w9b) [a, b, some street, c, e, none, none, some (.str "."), some (.int (1))] S = .ok (.bl false) S := by kernel_rfl
theorem a3 (a b c e x y : Option D) : ∀ z ∈ t3, ∃ u v, z = .tup [u, v] ∧ ∀ S, ev P (tstOf w9b) ((([a, b, some street, c, e, none, none, x, y] : Pi.Env).set 7 (some u)).set 8 (some v)) S = .ok (.bl false) S :=
  List.forall_mem_cons.mpr ⟨⟨_, _, rfl, fun S => u3_0 _ _ _ _ S⟩, List.forall_mem_cons.mpr ⟨⟨_, _, rfl, fun S => u3_1 _ _ _ _ S⟩, List.forall_mem_cons.mpr ⟨⟨_, _, rfl, fun S => u3_2 _ _ _ _ S⟩, List.forall_mem_cons.mpr ⟨⟨_, _, rfl, fun S => u3_3 _ _ _ _ S⟩, List.forall_mem_cons.mpr ⟨⟨_, _, rfl, fun S => u3_4 _ _ _ _ S⟩, List.forall_mem_cons.mpr ⟨⟨_, _, rfl, fun S => u3_5 _ _ _ _ S⟩, fun _ h => nomatch h⟩⟩⟩⟩⟩⟩
theorem ex_for {ρ : Pi.Env} {S S1 : Sto} {tg : Tg} {it : Ic} {b : Ss} {src : Src} (h : evi P it ρ S = .ok src S1) : ex P (.for_ tg it b) ρ S = forLoop src tg (fun ρ S => exs P b ρ S) P.fuel 0 ρ S1 := by
  show ((evi P it ρ S).bind fun src S1 => forLoop src tg (fun ρ S => exs P b ρ S) P.fuel 0 ρ S1) = _
  rw [h]
  rfl
theorem runA_z0 (L : List D) (x4 x7 x8 : Option D) (i j k : Int) : ∃ S', exs P (.cons w11 (.cons w12 (.cons w13 (.cons w14 (.cons w15 (.cons w16 (.cons w17 (.cons w18 (.cons w19 .nil))))))))) [some (.obj 0), some (.obj 1), some street, some (.obj 5), x4, some (.non), none, x7, x8] [.lst L, rowO (.obj 0) i j k, .lst t0, .lst t1, .lst t2, .lst t3, .lst [.str "0"], .lst [.non, .int 5, .obj 6, .tup []]] = .ok (.rt (.bl true)) S' := isT_ok (by kernel_rfl)
theorem runA_z1 (L : List D) (x4 x7 x8 : Option D) (i j k : Int) : ∃ S', exs P (.cons w11 (.cons w12 (.cons w13 (.cons w14 (.cons w15 (.cons w16 (.cons w17 (.cons w18 (.cons w19 .nil))))))))) [some (.obj 0), some (.obj 1), some street, some (.obj 5), x4, some (.int 5), none, x7, x8] [.lst L, rowO (.obj 0) i j k, .lst t0, .lst t1, .lst t2, .lst t3, .lst [.str "0"], .lst [.non, .int 5, .obj 6, .tup []]] = .ok (.rt (.bl true)) S' := isT_ok (by kernel_rfl)
theorem runA_z2 (L : List D) (x4 x7 x8 : Option D) (i j k : Int) : ∃ S', exs P (.cons w11 (.cons w12 (.cons w13 (.cons w14 (.cons w15 (.cons w16 (.cons w17 (.cons w18 (.cons w19 .nil))))))))) [some (.obj 0), some (.obj 1), some street, some (.obj 5), x4, some (.obj 6), none, x7, x8] [.lst L, rowO (.obj 0) i j k, .lst t0, .lst t1, .lst t2, .lst t3, .lst [.str "0"], .lst [.non, .int 5, .obj 6, .tup []]] = .ok (.rt (.bl true)) S' := isT_ok (by kernel_rfl)
theorem runA_z3 (L : List D) (x4 x7 x8 : Option D) (i j k : Int) : ∃ S', exs P (.cons w11 (.cons w12 (.cons w13 (.cons w14 (.cons w15 (.cons w16 (.cons w17 (.cons w18 (.cons w19 .nil))))))))) [some (.obj 0), some (.obj 1), some street, some (.obj 5), x4, some (.tup []), none, x7, x8] [.lst L, rowO (.obj 0) i j k, .lst t0, .lst t1, .lst t2, .lst t3, .lst [.str "0"], .lst [.non, .int 5, .obj 6, .tup []]] = .ok (.rt (.bl true)) S' := isT_ok (by kernel_rfl)
theorem runA (ns : List Int) (L : List D) (hL : L = ns.map D.int) (hl : ns.length ≤ 63) : ∃ S', exs P wB [some (.obj 0), none, none, none, none, none, none, none, none] [.lst L] = .ok (.rt (.bl true)) S' := by
  unfold wB
  rw [exs_nx (show ex P w0 [some (.obj 0), none, none, none, none, none, none, none, none] [.lst L] = .ok (.nx [some (.obj 0), some (.obj 1), none, none, none, none, none, none, none]) [.lst L, rowO (.obj 0) 0 9044 0] from by kernel_rfl)]
  rw [exs_nx (show ex P w1 [some (.obj 0), some (.obj 1), none, none, none, none, none, none, none] [.lst L, rowO (.obj 0) 0 9044 0] = .ok (.nx [some (.obj 0), some (.obj 1), some street, none, none, none, none, none, none]) [.lst L, rowO (.obj 0) 0 9044 0] from by kernel_rfl)]
  rw [exs_nx (show ex P w2 [some (.obj 0), some (.obj 1), some street, none, none, none, none, none, none] [.lst L, rowO (.obj 0) 0 9044 0] = .ok (.nx [some (.obj 0), some (.obj 1), some street, some (.obj 2), none, none, none, none, none]) [.lst L, rowO (.obj 0) 0 9044 0, .lst t0] from by kernel_rfl)]
  have f0 := for_inv (n := 3) (lo := 0) (v := 4) (body := fun ρ S => exs P w3b ρ S) (I := fun ρ S => ∃ (x4 x7 x8 : Option D) (i j k : Int), 0 ≤ i ∧ ρ = [some (.obj 0), some (.obj 1), some street, some (.obj 2), x4, none, none, x7, x8] ∧ S = ([.lst L, rowO (.obj 0) i j k, .lst t0] : Sto)) (fun e ρ S h => by
    obtain ⟨x4, x7, x8, i, j, k, hi, rfl, rfl⟩ := h
    obtain ⟨u, v, i', j', k', e1, e2⟩ := turn_ok (G := mdl.G) (ns := ns) (ds := t0) (S := [.lst L, rowO (.obj 0) 0 0 0, .lst t0]) (r := 1) (sc := .obj 0) (th := .obj 2) (i := i) (j := j) (k := k) (ρ := [some (.obj 0), some (.obj 1), some street, some (.obj 2), some (.int (0 + e)), none, none, x7, x8]) (p := "_law_pick") (t := "_law_taken") (by rfl) (by rfl) 18 7 8 3 (tstOf w3b) rfl rfl (by show 1 < 3; decide) (fun i j k => by rw [← hL]; rfl) hl hi (fun i j k => rfl) (fun z => nomatch z) (by decide +kernel) (a0 _ _ _ _ _ _)
    exact ⟨_, _, ⟨some (.int (0 + e)), some u, some v, i', j', k', e1, rfl, rfl⟩, e2⟩) 4000 0 [some (.obj 0), some (.obj 1), some street, some (.obj 2), none, none, none, none, none] [.lst L, rowO (.obj 0) 0 9044 0, .lst t0] (by decide) (by decide) ⟨_, _, _, _, _, _, by first | assumption | decide, rfl, rfl⟩
  obtain ⟨_, _, ⟨x0, y0, z0, i0, j0, k0, h0, rfl, rfl⟩, g0⟩ := f0
  rw [exs_nx (show ex P w3 [some (.obj 0), some (.obj 1), some street, some (.obj 2), none, none, none, none, none] [.lst L, rowO (.obj 0) 0 9044 0, .lst t0] = _ from (ex_for (by kernel_rfl)).trans g0)]
  rw [exs_nx (show ex P w4 [some (.obj 0), some (.obj 1), some street, some (.obj 2), x0, none, none, y0, z0] [.lst L, rowO (.obj 0) i0 j0 k0, .lst t0] = .ok (.nx [some (.obj 0), some (.obj 1), some street, some (.obj 3), x0, none, none, y0, z0]) [.lst L, rowO (.obj 0) i0 j0 k0, .lst t0, .lst t1] from by kernel_rfl)]
  have f1 := for_inv (n := 3) (lo := 0) (v := 4) (body := fun ρ S => exs P w5b ρ S) (I := fun ρ S => ∃ (x4 x7 x8 : Option D) (i j k : Int), 0 ≤ i ∧ ρ = [some (.obj 0), some (.obj 1), some street, some (.obj 3), x4, none, none, x7, x8] ∧ S = ([.lst L, rowO (.obj 0) i j k, .lst t0, .lst t1] : Sto)) (fun e ρ S h => by
    obtain ⟨x4, x7, x8, i, j, k, hi, rfl, rfl⟩ := h
    obtain ⟨u, v, i', j', k', e1, e2⟩ := turn_ok (G := mdl.G) (ns := ns) (ds := t1) (S := [.lst L, rowO (.obj 0) 0 0 0, .lst t0, .lst t1]) (r := 1) (sc := .obj 0) (th := .obj 3) (i := i) (j := j) (k := k) (ρ := [some (.obj 0), some (.obj 1), some street, some (.obj 3), some (.int (0 + e)), none, none, x7, x8]) (p := "_law_pick") (t := "_law_taken") (by rfl) (by rfl) 18 7 8 3 (tstOf w5b) rfl rfl (by show 1 < 4; decide) (fun i j k => by rw [← hL]; rfl) hl hi (fun i j k => rfl) (fun z => nomatch z) (by decide +kernel) (a1 _ _ _ _ _ _)
    exact ⟨_, _, ⟨some (.int (0 + e)), some u, some v, i', j', k', e1, rfl, rfl⟩, e2⟩) 4000 0 [some (.obj 0), some (.obj 1), some street, some (.obj 3), x0, none, none, y0, z0] [.lst L, rowO (.obj 0) i0 j0 k0, .lst t0, .lst t1] (by decide) (by decide) ⟨_, _, _, _, _, _, by first | assumption | decide, rfl, rfl⟩
  obtain ⟨_, _, ⟨x1, y1, z1, i1, j1, k1, h1, rfl, rfl⟩, g1⟩ := f1
  rw [exs_nx (show ex P w5 [some (.obj 0), some (.obj 1), some street, some (.obj 3), x0, none, none, y0, z0] [.lst L, rowO (.obj 0) i0 j0 k0, .lst t0, .lst t1] = _ from (ex_for (by kernel_rfl)).trans g1)]
  rw [exs_nx (show ex P w6 [some (.obj 0), some (.obj 1), some street, some (.obj 3), x1, none, none, y1, z1] [.lst L, rowO (.obj 0) i1 j1 k1, .lst t0, .lst t1] = .ok (.nx [some (.obj 0), some (.obj 1), some street, some (.obj 4), x1, none, none, y1, z1]) [.lst L, rowO (.obj 0) i1 j1 k1, .lst t0, .lst t1, .lst t2] from by kernel_rfl)]
  have f2 := for_inv (n := 3) (lo := 0) (v := 4) (body := fun ρ S => exs P w7b ρ S) (I := fun ρ S => ∃ (x4 x7 x8 : Option D) (i j k : Int), 0 ≤ i ∧ ρ = [some (.obj 0), some (.obj 1), some street, some (.obj 4), x4, none, none, x7, x8] ∧ S = ([.lst L, rowO (.obj 0) i j k, .lst t0, .lst t1, .lst t2] : Sto)) (fun e ρ S h => by
    obtain ⟨x4, x7, x8, i, j, k, hi, rfl, rfl⟩ := h
    obtain ⟨u, v, i', j', k', e1, e2⟩ := turn_ok (G := mdl.G) (ns := ns) (ds := t2) (S := [.lst L, rowO (.obj 0) 0 0 0, .lst t0, .lst t1, .lst t2]) (r := 1) (sc := .obj 0) (th := .obj 4) (i := i) (j := j) (k := k) (ρ := [some (.obj 0), some (.obj 1), some street, some (.obj 4), some (.int (0 + e)), none, none, x7, x8]) (p := "_law_pick") (t := "_law_taken") (by rfl) (by rfl) 18 7 8 3 (tstOf w7b) rfl rfl (by show 1 < 5; decide) (fun i j k => by rw [← hL]; rfl) hl hi (fun i j k => rfl) (fun z => nomatch z) (by decide +kernel) (a2 _ _ _ _ _ _)
    exact ⟨_, _, ⟨some (.int (0 + e)), some u, some v, i', j', k', e1, rfl, rfl⟩, e2⟩) 4000 0 [some (.obj 0), some (.obj 1), some street, some (.obj 4), x1, none, none, y1, z1] [.lst L, rowO (.obj 0) i1 j1 k1, .lst t0, .lst t1, .lst t2] (by decide) (by decide) ⟨_, _, _, _, _, _, by first | assumption | decide, rfl, rfl⟩
  obtain ⟨_, _, ⟨x2, y2, z2, i2, j2, k2, h2, rfl, rfl⟩, g2⟩ := f2
  rw [exs_nx (show ex P w7 [some (.obj 0), some (.obj 1), some street, some (.obj 4), x1, none, none, y1, z1] [.lst L, rowO (.obj 0) i1 j1 k1, .lst t0, .lst t1, .lst t2] = _ from (ex_for (by kernel_rfl)).trans g2)]
  rw [exs_nx (show ex P w8 [some (.obj 0), some (.obj 1), some street, some (.obj 4), x2, none, none, y2, z2] [.lst L, rowO (.obj 0) i2 j2 k2, .lst t0, .lst t1, .lst t2] = .ok (.nx [some (.obj 0), some (.obj 1), some street, some (.obj 5), x2, none, none, y2, z2]) [.lst L, rowO (.obj 0) i2 j2 k2, .lst t0, .lst t1, .lst t2, .lst t3] from by kernel_rfl)]
  have f3 := for_inv (n := 3) (lo := 0) (v := 4) (body := fun ρ S => exs P w9b ρ S) (I := fun ρ S => ∃ (x4 x7 x8 : Option D) (i j k : Int), 0 ≤ i ∧ ρ = [some (.obj 0), some (.obj 1), some street, some (.obj 5), x4, none, none, x7, x8] ∧ S = ([.lst L, rowO (.obj 0) i j k, .lst t0, .lst t1, .lst t2, .lst t3] : Sto)) (fun e ρ S h => by
    obtain ⟨x4, x7, x8, i, j, k, hi, rfl, rfl⟩ := h
    obtain ⟨u, v, i', j', k', e1, e2⟩ := turn_ok (G := mdl.G) (ns := ns) (ds := t3) (S := [.lst L, rowO (.obj 0) 0 0 0, .lst t0, .lst t1, .lst t2, .lst t3]) (r := 1) (sc := .obj 0) (th := .obj 5) (i := i) (j := j) (k := k) (ρ := [some (.obj 0), some (.obj 1), some street, some (.obj 5), some (.int (0 + e)), none, none, x7, x8]) (p := "_law_pick") (t := "_law_taken") (by rfl) (by rfl) 18 7 8 3 (tstOf w9b) rfl rfl (by show 1 < 6; decide) (fun i j k => by rw [← hL]; rfl) hl hi (fun i j k => rfl) (fun z => nomatch z) (by decide +kernel) (a3 _ _ _ _ _ _)
    exact ⟨_, _, ⟨some (.int (0 + e)), some u, some v, i', j', k', e1, rfl, rfl⟩, e2⟩) 4000 0 [some (.obj 0), some (.obj 1), some street, some (.obj 5), x2, none, none, y2, z2] [.lst L, rowO (.obj 0) i2 j2 k2, .lst t0, .lst t1, .lst t2, .lst t3] (by decide) (by decide) ⟨_, _, _, _, _, _, by first | assumption | decide, rfl, rfl⟩
  obtain ⟨_, _, ⟨x3, y3, z3, i3, j3, k3, h3, rfl, rfl⟩, g3⟩ := f3
  rw [exs_nx (show ex P w9 [some (.obj 0), some (.obj 1), some street, some (.obj 5), x2, none, none, y2, z2] [.lst L, rowO (.obj 0) i2 j2 k2, .lst t0, .lst t1, .lst t2, .lst t3] = _ from (ex_for (by kernel_rfl)).trans g3)]
  obtain ⟨q, x, i', j', k', e1, e2, e3⟩ := pick_call (G := mdl.G) (ns := ns) (ds := [.non, .int 5, .obj 6, .tup []]) (S := [.lst L, rowO (.obj 0) 0 0 0, .lst t0, .lst t1, .lst t2, .lst t3, .lst [.str "0"], .lst [.non, .int 5, .obj 6, .tup []]]) (r := 1) (sc := .obj 0) (th := .obj 7) (i := i3) (j := j3) (k := k3) (p := "_law_pick") (t := "_law_taken") (by rfl) (by rfl) 18 (by show 1 < 8; decide) (fun i j k => by rw [← hL]; rfl) hl h3 (fun i j k => rfl) (fun z => nomatch z) (by decide +kernel)
  have e4 : ex P w10 [some (.obj 0), some (.obj 1), some street, some (.obj 5), x3, none, none, y3, z3] [.lst L, rowO (.obj 0) i3 j3 k3, .lst t0, .lst t1, .lst t2, .lst t3] = .ok (.nx [some (.obj 0), some (.obj 1), some street, some (.obj 5), x3, some x, none, y3, z3]) [.lst L, rowO (.obj 0) i' j' k', .lst t0, .lst t1, .lst t2, .lst t3, .lst [.str "0"], .lst [.non, .int 5, .obj 6, .tup []]] := by
    show (callN mdl.G 20 "_law_pick" [.obj 1, .obj 7] [.lst L, rowO (.obj 0) i3 j3 k3, .lst t0, .lst t1, .lst t2, .lst t3, .lst [.str "0"], .lst [.non, .int 5, .obj 6, .tup []]]).bind (fun d S1 => nxO (setT [some (.obj 0), some (.obj 1), some street, some (.obj 5), x3, none, none, y3, z3] (.one 5) d) S1) = _
    rw [show callN mdl.G 20 "_law_pick" [.obj 1, .obj 7] [.lst L, rowO (.obj 0) i3 j3 k3, .lst t0, .lst t1, .lst t2, .lst t3, .lst [.str "0"], .lst [.non, .int 5, .obj 6, .tup []]] = _ from e3]
    rfl
  rw [exs_nx e4]
  match q, e1 with
  | 0, e1 =>
    cases e1
    exact runA_z0 _ _ _ _ _ _ _
  | 1, e1 =>
    cases e1
    exact runA_z1 _ _ _ _ _ _ _
  | 2, e1 =>
    cases e1
    exact runA_z2 _ _ _ _ _ _ _
  | 3, e1 =>
    cases e1
    exact runA_z3 _ _ _ _ _ _ _
  | q + 4, e1 => simp at e1
theorem runB_z0 (L : List D) (x4 x7 x8 : Option D) (i j k : Int) : ∃ S', exs P (.cons w11 (.cons w12 (.cons w13 (.cons w14 (.cons w15 (.cons w16 (.cons w17 (.cons w18 (.cons w19 .nil))))))))) [some (.rol L), some (.obj 0), some street, some (.obj 4), x4, some (.non), none, x7, x8] [rowO (.rol L) i j k, .lst t0, .lst t1, .lst t2, .lst t3, .lst [.str "0"], .lst [.non, .int 5, .obj 5, .tup []]] = .ok (.rt (.bl true)) S' := isT_ok (by kernel_rfl)
theorem runB_z1 (L : List D) (x4 x7 x8 : Option D) (i j k : Int) : ∃ S', exs P (.cons w11 (.cons w12 (.cons w13 (.cons w14 (.cons w15 (.cons w16 (.cons w17 (.cons w18 (.cons w19 .nil))))))))) [some (.rol L), some (.obj 0), some street, some (.obj 4), x4, some (.int 5), none, x7, x8] [rowO (.rol L) i j k, .lst t0, .lst t1, .lst t2, .lst t3, .lst [.str "0"], .lst [.non, .int 5, .obj 5, .tup []]] = .ok (.rt (.bl true)) S' := isT_ok (by kernel_rfl)
theorem runB_z2 (L : List D) (x4 x7 x8 : Option D) (i j k : Int) : ∃ S', exs P (.cons w11 (.cons w12 (.cons w13 (.cons w14 (.cons w15 (.cons w16 (.cons w17 (.cons w18 (.cons w19 .nil))))))))) [some (.rol L), some (.obj 0), some street, some (.obj 4), x4, some (.obj 5), none, x7, x8] [rowO (.rol L) i j k, .lst t0, .lst t1, .lst t2, .lst t3, .lst [.str "0"], .lst [.non, .int 5, .obj 5, .tup []]] = .ok (.rt (.bl true)) S' := isT_ok (by kernel_rfl)
theorem runB_z3 (L : List D) (x4 x7 x8 : Option D) (i j k : Int) : ∃ S', exs P (.cons w11 (.cons w12 (.cons w13 (.cons w14 (.cons w15 (.cons w16 (.cons w17 (.cons w18 (.cons w19 .nil))))))))) [some (.rol L), some (.obj 0), some street, some (.obj 4), x4, some (.tup []), none, x7, x8] [rowO (.rol L) i j k, .lst t0, .lst t1, .lst t2, .lst t3, .lst [.str "0"], .lst [.non, .int 5, .obj 5, .tup []]] = .ok (.rt (.bl true)) S' := isT_ok (by kernel_rfl)
theorem runB (ns : List Int) (L : List D) (hL : L = ns.map D.int) (hl : ns.length ≤ 63) : ∃ S', exs P wB [some (.rol L), none, none, none, none, none, none, none, none] [] = .ok (.rt (.bl true)) S' := by
  unfold wB
  rw [exs_nx (show ex P w0 [some (.rol L), none, none, none, none, none, none, none, none] [] = .ok (.nx [some (.rol L), some (.obj 0), none, none, none, none, none, none, none]) [rowO (.rol L) 0 9044 0] from by kernel_rfl)]
  rw [exs_nx (show ex P w1 [some (.rol L), some (.obj 0), none, none, none, none, none, none, none] [rowO (.rol L) 0 9044 0] = .ok (.nx [some (.rol L), some (.obj 0), some street, none, none, none, none, none, none]) [rowO (.rol L) 0 9044 0] from by kernel_rfl)]
  rw [exs_nx (show ex P w2 [some (.rol L), some (.obj 0), some street, none, none, none, none, none, none] [rowO (.rol L) 0 9044 0] = .ok (.nx [some (.rol L), some (.obj 0), some street, some (.obj 1), none, none, none, none, none]) [rowO (.rol L) 0 9044 0, .lst t0] from by kernel_rfl)]
  have f0 := for_inv (n := 3) (lo := 0) (v := 4) (body := fun ρ S => exs P w3b ρ S) (I := fun ρ S => ∃ (x4 x7 x8 : Option D) (i j k : Int), 0 ≤ i ∧ ρ = [some (.rol L), some (.obj 0), some street, some (.obj 1), x4, none, none, x7, x8] ∧ S = ([rowO (.rol L) i j k, .lst t0] : Sto)) (fun e ρ S h => by
    obtain ⟨x4, x7, x8, i, j, k, hi, rfl, rfl⟩ := h
    obtain ⟨u, v, i', j', k', e1, e2⟩ := turn_ok (G := mdl.G) (ns := ns) (ds := t0) (S := [rowO (.rol L) 0 0 0, .lst t0]) (r := 0) (sc := .rol L) (th := .obj 1) (i := i) (j := j) (k := k) (ρ := [some (.rol L), some (.obj 0), some street, some (.obj 1), some (.int (0 + e)), none, none, x7, x8]) (p := "_law_pick") (t := "_law_taken") (by rfl) (by rfl) 18 7 8 3 (tstOf w3b) rfl rfl (by show 0 < 2; decide) (fun i j k => by rw [← hL]; rfl) hl hi (fun i j k => rfl) (fun z => nomatch z) (by decide +kernel) (a0 _ _ _ _ _ _)
    exact ⟨_, _, ⟨some (.int (0 + e)), some u, some v, i', j', k', e1, rfl, rfl⟩, e2⟩) 4000 0 [some (.rol L), some (.obj 0), some street, some (.obj 1), none, none, none, none, none] [rowO (.rol L) 0 9044 0, .lst t0] (by decide) (by decide) ⟨_, _, _, _, _, _, by first | assumption | decide, rfl, rfl⟩
  obtain ⟨_, _, ⟨x0, y0, z0, i0, j0, k0, h0, rfl, rfl⟩, g0⟩ := f0
  rw [exs_nx (show ex P w3 [some (.rol L), some (.obj 0), some street, some (.obj 1), none, none, none, none, none] [rowO (.rol L) 0 9044 0, .lst t0] = _ from (ex_for (by kernel_rfl)).trans g0)]
  rw [exs_nx (show ex P w4 [some (.rol L), some (.obj 0), some street, some (.obj 1), x0, none, none, y0, z0] [rowO (.rol L) i0 j0 k0, .lst t0] = .ok (.nx [some (.rol L), some (.obj 0), some street, some (.obj 2), x0, none, none, y0, z0]) [rowO (.rol L) i0 j0 k0, .lst t0, .lst t1] from by kernel_rfl)]
  have f1 := for_inv (n := 3) (lo := 0) (v := 4) (body := fun ρ S => exs P w5b ρ S) (I := fun ρ S => ∃ (x4 x7 x8 : Option D) (i j k : Int), 0 ≤ i ∧ ρ = [some (.rol L), some (.obj 0), some street, some (.obj 2), x4, none, none, x7, x8] ∧ S = ([rowO (.rol L) i j k, .lst t0, .lst t1] : Sto)) (fun e ρ S h => by
    obtain ⟨x4, x7, x8, i, j, k, hi, rfl, rfl⟩ := h
    obtain ⟨u, v, i', j', k', e1, e2⟩ := turn_ok (G := mdl.G) (ns := ns) (ds := t1) (S := [rowO (.rol L) 0 0 0, .lst t0, .lst t1]) (r := 0) (sc := .rol L) (th := .obj 2) (i := i) (j := j) (k := k) (ρ := [some (.rol L), some (.obj 0), some street, some (.obj 2), some (.int (0 + e)), none, none, x7, x8]) (p := "_law_pick") (t := "_law_taken") (by rfl) (by rfl) 18 7 8 3 (tstOf w5b) rfl rfl (by show 0 < 3; decide) (fun i j k => by rw [← hL]; rfl) hl hi (fun i j k => rfl) (fun z => nomatch z) (by decide +kernel) (a1 _ _ _ _ _ _)
    exact ⟨_, _, ⟨some (.int (0 + e)), some u, some v, i', j', k', e1, rfl, rfl⟩, e2⟩) 4000 0 [some (.rol L), some (.obj 0), some street, some (.obj 2), x0, none, none, y0, z0] [rowO (.rol L) i0 j0 k0, .lst t0, .lst t1] (by decide) (by decide) ⟨_, _, _, _, _, _, by first | assumption | decide, rfl, rfl⟩
  obtain ⟨_, _, ⟨x1, y1, z1, i1, j1, k1, h1, rfl, rfl⟩, g1⟩ := f1
  rw [exs_nx (show ex P w5 [some (.rol L), some (.obj 0), some street, some (.obj 2), x0, none, none, y0, z0] [rowO (.rol L) i0 j0 k0, .lst t0, .lst t1] = _ from (ex_for (by kernel_rfl)).trans g1)]
  rw [exs_nx (show ex P w6 [some (.rol L), some (.obj 0), some street, some (.obj 2), x1, none, none, y1, z1] [rowO (.rol L) i1 j1 k1, .lst t0, .lst t1] = .ok (.nx [some (.rol L), some (.obj 0), some street, some (.obj 3), x1, none, none, y1, z1]) [rowO (.rol L) i1 j1 k1, .lst t0, .lst t1, .lst t2] from by kernel_rfl)]
  have f2 := for_inv (n := 3) (lo := 0) (v := 4) (body := fun ρ S => exs P w7b ρ S) (I := fun ρ S => ∃ (x4 x7 x8 : Option D) (i j k : Int), 0 ≤ i ∧ ρ = [some (.rol L), some (.obj 0), some street, some (.obj 3), x4, none, none, x7, x8] ∧ S = ([rowO (.rol L) i j k, .lst t0, .lst t1, .lst t2] : Sto)) (fun e ρ S h => by
    obtain ⟨x4, x7, x8, i, j, k, hi, rfl, rfl⟩ := h
    obtain ⟨u, v, i', j', k', e1, e2⟩ := turn_ok (G := mdl.G) (ns := ns) (ds := t2) (S := [rowO (.rol L) 0 0 0, .lst t0, .lst t1, .lst t2]) (r := 0) (sc := .rol L) (th := .obj 3) (i := i) (j := j) (k := k) (ρ := [some (.rol L), some (.obj 0), some street, some (.obj 3), some (.int (0 + e)), none, none, x7, x8]) (p := "_law_pick") (t := "_law_taken") (by rfl) (by rfl) 18 7 8 3 (tstOf w7b) rfl rfl (by show 0 < 4; decide) (fun i j k => by rw [← hL]; rfl) hl hi (fun i j k => rfl) (fun z => nomatch z) (by decide +kernel) (a2 _ _ _ _ _ _)
    exact ⟨_, _, ⟨some (.int (0 + e)), some u, some v, i', j', k', e1, rfl, rfl⟩, e2⟩) 4000 0 [some (.rol L), some (.obj 0), some street, some (.obj 3), x1, none, none, y1, z1] [rowO (.rol L) i1 j1 k1, .lst t0, .lst t1, .lst t2] (by decide) (by decide) ⟨_, _, _, _, _, _, by first | assumption | decide, rfl, rfl⟩
  obtain ⟨_, _, ⟨x2, y2, z2, i2, j2, k2, h2, rfl, rfl⟩, g2⟩ := f2
  rw [exs_nx (show ex P w7 [some (.rol L), some (.obj 0), some street, some (.obj 3), x1, none, none, y1, z1] [rowO (.rol L) i1 j1 k1, .lst t0, .lst t1, .lst t2] = _ from (ex_for (by kernel_rfl)).trans g2)]
  rw [exs_nx (show ex P w8 [some (.rol L), some (.obj 0), some street, some (.obj 3), x2, none, none, y2, z2] [rowO (.rol L) i2 j2 k2, .lst t0, .lst t1, .lst t2] = .ok (.nx [some (.rol L), some (.obj 0), some street, some (.obj 4), x2, none, none, y2, z2]) [rowO (.rol L) i2 j2 k2, .lst t0, .lst t1, .lst t2, .lst t3] from by kernel_rfl)]
  have f3 := for_inv (n := 3) (lo := 0) (v := 4) (body := fun ρ S => exs P w9b ρ S) (I := fun ρ S => ∃ (x4 x7 x8 : Option D) (i j k : Int), 0 ≤ i ∧ ρ = [some (.rol L), some (.obj 0), some street, some (.obj 4), x4, none, none, x7, x8] ∧ S = ([rowO (.rol L) i j k, .lst t0, .lst t1, .lst t2, .lst t3] : Sto)) (fun e ρ S h => by
    obtain ⟨x4, x7, x8, i, j, k, hi, rfl, rfl⟩ := h
    obtain ⟨u, v, i', j', k', e1, e2⟩ := turn_ok (G := mdl.G) (ns := ns) (ds := t3) (S := [rowO (.rol L) 0 0 0, .lst t0, .lst t1, .lst t2, .lst t3]) (r := 0) (sc := .rol L) (th := .obj 4) (i := i) (j := j) (k := k) (ρ := [some (.rol L), some (.obj 0), some street, some (.obj 4), some (.int (0 + e)), none, none, x7, x8]) (p := "_law_pick") (t := "_law_taken") (by rfl) (by rfl) 18 7 8 3 (tstOf w9b) rfl rfl (by show 0 < 5; decide) (fun i j k => by rw [← hL]; rfl) hl hi (fun i j k => rfl) (fun z => nomatch z) (by decide +kernel) (a3 _ _ _ _ _ _)
    exact ⟨_, _, ⟨some (.int (0 + e)), some u, some v, i', j', k', e1, rfl, rfl⟩, e2⟩) 4000 0 [some (.rol L), some (.obj 0), some street, some (.obj 4), x2, none, none, y2, z2] [rowO (.rol L) i2 j2 k2, .lst t0, .lst t1, .lst t2, .lst t3] (by decide) (by decide) ⟨_, _, _, _, _, _, by first | assumption | decide, rfl, rfl⟩
  obtain ⟨_, _, ⟨x3, y3, z3, i3, j3, k3, h3, rfl, rfl⟩, g3⟩ := f3
  rw [exs_nx (show ex P w9 [some (.rol L), some (.obj 0), some street, some (.obj 4), x2, none, none, y2, z2] [rowO (.rol L) i2 j2 k2, .lst t0, .lst t1, .lst t2, .lst t3] = _ from (ex_for (by kernel_rfl)).trans g3)]
  obtain ⟨q, x, i', j', k', e1, e2, e3⟩ := pick_call (G := mdl.G) (ns := ns) (ds := [.non, .int 5, .obj 5, .tup []]) (S := [rowO (.rol L) 0 0 0, .lst t0, .lst t1, .lst t2, .lst t3, .lst [.str "0"], .lst [.non, .int 5, .obj 5, .tup []]]) (r := 0) (sc := .rol L) (th := .obj 6) (i := i3) (j := j3) (k := k3) (p := "_law_pick") (t := "_law_taken") (by rfl) (by rfl) 18 (by show 0 < 7; decide) (fun i j k => by rw [← hL]; rfl) hl h3 (fun i j k => rfl) (fun z => nomatch z) (by decide +kernel)
  have e4 : ex P w10 [some (.rol L), some (.obj 0), some street, some (.obj 4), x3, none, none, y3, z3] [rowO (.rol L) i3 j3 k3, .lst t0, .lst t1, .lst t2, .lst t3] = .ok (.nx [some (.rol L), some (.obj 0), some street, some (.obj 4), x3, some x, none, y3, z3]) [rowO (.rol L) i' j' k', .lst t0, .lst t1, .lst t2, .lst t3, .lst [.str "0"], .lst [.non, .int 5, .obj 5, .tup []]] := by
    show (callN mdl.G 20 "_law_pick" [.obj 0, .obj 6] [rowO (.rol L) i3 j3 k3, .lst t0, .lst t1, .lst t2, .lst t3, .lst [.str "0"], .lst [.non, .int 5, .obj 5, .tup []]]).bind (fun d S1 => nxO (setT [some (.rol L), some (.obj 0), some street, some (.obj 4), x3, none, none, y3, z3] (.one 5) d) S1) = _
    rw [show callN mdl.G 20 "_law_pick" [.obj 0, .obj 6] [rowO (.rol L) i3 j3 k3, .lst t0, .lst t1, .lst t2, .lst t3, .lst [.str "0"], .lst [.non, .int 5, .obj 5, .tup []]] = _ from e3]
    rfl
  rw [exs_nx e4]
  match q, e1 with
  | 0, e1 =>
    cases e1
    exact runB_z0 _ _ _ _ _ _ _
  | 1, e1 =>
    cases e1
    exact runB_z1 _ _ _ _ _ _ _
  | 2, e1 =>
    cases e1
    exact runB_z2 _ _ _ _ _ _ _
  | 3, e1 =>
    cases e1
    exact runB_z3 _ _ _ _ _ _ _
  | q + 4, e1 => simp at e1
theorem closed_ints : ∀ ns : List Int, closedL (ns.map D.int) = true
  | [] => rfl
  | _ :: r => closed_ints r
theorem plain : PlainOk mdl 20 63 := fun ns hl => by
  constructor
  · obtain ⟨S, h⟩ := runA ns _ rfl hl
    refine ⟨S, ?_⟩
    rw [call_open (d := i_law.d) rfl rfl rfl]
    unfold Pi.runB
    rw [wB_eq]
    rw [show exs (parN mdl.G 20) wB (entry i_law.d [.obj 0]) [.lst (ns.map D.int)] = _ from h]
  · obtain ⟨S, h⟩ := runB ns _ rfl hl
    refine ⟨[], ?_⟩
    rw [call_closed (d := i_law.d) rfl rfl (by show (closedL (ns.map D.int) && true) = true; rw [closed_ints]; rfl)]
    unfold Pi.runB
    rw [wB_eq]
    rw [show exs (parN mdl.G 20) wB (entry i_law.d [.rol (ns.map D.int)]) [] = _ from h]
    rfl
end K44
theorem PySem.Challenge.cw_parkback_k44_texts_refused_holds : PySem.Challenge.rw_parkback_k44_texts_refused.Holds := by
  exact K44.holds K44.plain

