import PyProof.Rows.All
import Wide.All
import OpenK.AllK
import Wide.FinOn
import HandS.ForMost
import HandS.Defaults
import HandS.StrMore
import HandS.HeadHook2
import HandS.Wide
import HandS.TupAny
import HandS.Deep
import HandS.Codes
import HandS.HeadHook4
import HandS.Property
import HandS.IsInst
import HandS.More
import PyProof.Rows.SortShellAny
import HandS.SetFor
import HandS.Strs
import HandS.ForExc
import HandS.CallSlots
import HandS.Zip
import HandS.SortInts
import HandS.RaiseMore
import HandS.FStr
import HandS.Style
import HandS.MakeKw
import HandS.CallRecv
import HandS.HeadEnd
import HandS.Head0
import HandS.Head1
import HandS.Head2
import PySem.Challenge.RW_lastkept_k14_texts_of_patterns
set_option Elab.async false
set_option linter.all false
set_option maxRecDepth 100000
/-! Dx1: the small language, its values and its evaluator (plain Lean, no machine). -/
namespace Dx
open PySem PySem.Spec

abbrev Txt := List Nat

inductive W where
  | non | bl (b : Bool) | int (i : Int) | str (x : Txt) | tup (ws : List W) | ref (l : Nat)
  | exn (c : Nat) (fs : List W) | clo (k : Nat) (cs : List Nat) | scr (ws : List W)
instance : Inhabited W := ⟨.non⟩

/-- a dict's key: a number, a text, a tuple of such -/
inductive Ky where
  | i (i : Int) | s (x : Txt) | t (ks : List (Int ⊕ Txt))
  deriving DecidableEq
inductive O where
  | lst (ws : List W) | ro (ws : List W) | dct (tt : Bool) (kvs : List (Ky × W)) | ins (c : Nat) (fs : List (Nat × W))
abbrev Hh := List O

inductive Res (α : Type) where
  | ok (a : α) (L : Hh) | exc (e : W) (L : Hh) | bad
def M (α : Type) := Hh → Res α
@[reducible] def ret {α : Type} (a : α) : M α := fun L => .ok a L
@[reducible] def fail {α : Type} : M α := fun _ => .bad
@[reducible] def thr {α : Type} (e : W) : M α := fun L => .exc e L
def noX {α : Type} (m : M α) : M α := fun L => match m L with
  | .ok a L1 => .ok a L1
  | _ => .bad
def bnd {α β : Type} (m : M α) (f : α → M β) : M β := fun L => match m L with
  | .ok a L1 => f a L1
  | .exc e L1 => .exc e L1
  | .bad => .bad
@[reducible] def gets {α : Type} (f : Hh → M α) : M α := fun L => f L L

/-- what is wanted of a run -/
def wp {α : Type} (m : M α) (L : Hh) (Q : α → Hh → Prop) (E : W → Hh → Prop) : Prop := match m L with
  | .ok a L1 => Q a L1
  | .exc e L1 => E e L1
  | .bad => False
section
variable {α β : Type} {L : Hh} {Q : α → Hh → Prop} {E : W → Hh → Prop}
@[simp] theorem wp_ret {a : α} : wp (ret a) L Q E = Q a L := rfl
@[simp] theorem wp_fail : wp (fail : M α) L Q E = False := rfl
@[simp] theorem wp_thr {e : W} : wp (thr e : M α) L Q E = E e L := rfl
@[simp] theorem wp_gets {f : Hh → M α} : wp (gets f) L Q E = wp (f L) L Q E := rfl
@[simp] theorem wp_bnd {m : M α} {f : α → M β} {Q : β → Hh → Prop} : wp (bnd m f) L Q E = wp m L (fun a L1 => wp (f a) L1 Q E) E := by
  unfold wp bnd
  cases m L <;> rfl
@[simp] theorem wp_noX {m : M α} : wp (noX m) L Q E = wp m L Q (fun _ _ => False) := by
  unfold wp noX
  cases m L <;> rfl
theorem wp_mono {m : M α} {Q' : α → Hh → Prop} {E' : W → Hh → Prop} (h : wp m L Q E) (hq : ∀ a L, Q a L → Q' a L) (he : ∀ e L, E e L → E' e L) : wp m L Q' E' := by
  unfold wp at h ⊢
  cases e : m L with
  | ok a L1 => rw [e] at h; exact hq _ _ h
  | exc x L1 => rw [e] at h; exact he _ _ h
  | bad => rw [e] at h; exact h
end

/-! ### heaps -/
def alloc (o : O) : M W := fun L => .ok (.ref L.length) (L ++ [o])
def put (l : Nat) (o : O) : M Unit := fun L => .ok () (L.set l o)

/-! ### operations by values -/
inductive BOp where | add | sub | mul | fdiv | mod | pow
inductive COp where | eq | ne | lt | le | gt | ge | is | isn | inn | nin

def lenOk (n : Nat) : Bool := decide (n ≤ sizeLine)
/-- the value as plain data, lists read through the heap (n: a bound of the depth) -/
def asData (L : Hh) : Nat → W → Option PyData
  | _, .non => some .none
  | _, .bl b => some (.bool b)
  | _, .int i => some (.int i)
  | _, .str x => some (.str ⟨x.toArray⟩)
  | n + 1, .tup ws => (ws.mapM (asData L n)).map PyData.tuple
  | n + 1, .ref l => match L[l]? with
    | some (.lst ws) => (ws.mapM (asData L n)).map PyData.list
    | some (.ro ws) => (ws.mapM (asData L n)).map PyData.list
    | _ => none
  | _, _ => none

def smallI (i : Int) : Bool := decide (-(2 ^ 64) < i) && decide (i < 2 ^ 64)

def binop : BOp → W → W → M W
  | .add, .int i, .int j => ret (.int (i + j))
  | .add, .str x, .str y => if lenOk (x.length + y.length) then ret (.str (x ++ y)) else fail
  | .add, .tup x, .tup y => if lenOk (x.length + y.length) then ret (.tup (x ++ y)) else fail
  | .add, .ref a, .ref b => gets fun L => match L[a]?, L[b]? with
    | some (.lst x), some (.lst y) => if lenOk (x.length + y.length) then alloc (.lst (x ++ y)) else fail
    | _, _ => fail
  | .sub, .int i, .int j => ret (.int (i - j))
  | .mul, .int i, .int j => if smallI i || smallI j then ret (.int (i * j)) else fail
  | .fdiv, .int i, .int j => if decide (0 < j) && decide (j < 1073741824) then ret (.int (i / j)) else fail
  | .mod, .int i, .int j => if decide (0 < j) then ret (.int (i % j)) else fail
  | .pow, .int i, .int j => if decide (0 ≤ j) && decide (j ≤ 1000000) && decide (i.natAbs < 2 ^ 64) then ret (.int (i ^ j.toNat)) else fail
  | _, _, _ => fail

/-- == of scalars, of data -/
def eqop (x y : W) : M Bool := gets fun L => match asData L 64 x, asData L 64 y with
  | some d, some e => if SeqAt.shaped d && SeqAt.shaped e then ret (PyData.eqv d e) else fail
  | _, _ => fail

/-- x is y where y is None; flat membership -/
def isNone : W → Bool
  | .non => true
  | _ => false
/-- the places of a text's signs, as texts -/
def signs (x : Txt) : List W := x.map fun c => .str [c]
/-- [lo:hi] of n items: where it begins and how many -/
def cutI (n : Nat) (lo hi : Option Int) : Nat × Nat := (HT.sIx n 0 lo, HT.sIx n n hi - HT.sIx n 0 lo)
def cutL {α : Type} (xs : List α) (lo hi : Option Int) : List α := (xs.drop (cutI xs.length lo hi).1).take (cutI xs.length lo hi).2
/-- keys, dicts -/
def keyAt : W → Option (Int ⊕ Txt)
  | .int i => some (.inl i)
  | .str x => some (.inr x)
  | _ => none
def keyOf : W → Option Ky
  | .int i => some (.i i)
  | .str x => some (.s x)
  | .tup ws => (ws.mapM keyAt).map .t
  | _ => none
def Ky.isT : Ky → Bool
  | .t _ => true
  | _ => false
def dGet (kvs : List (Ky × W)) (k : Ky) : Option W := (kvs.find? fun p => decide (p.1 = k)).map (·.2)
def dPut (kvs : List (Ky × W)) (k : Ky) (w : W) : List (Ky × W) := if (kvs.any fun p => decide (p.1 = k)) = true then kvs.map fun p => if p.1 = k then (p.1, w) else p else kvs ++ [(k, w)]
def dctAt (L : Hh) : W → Option (Bool × List (Ky × W))
  | .ref l => match L[l]? with
    | some (.dct tt kvs) => some (tt, kvs)
    | _ => none
  | _ => none
/-- the key, if it fits the dict -/
def keyFit (tt : Bool) (w : W) : Option Ky := match keyOf w with
  | some k => if k.isT = tt then some k else none
  | none => none
/-- the item at i -/
def itemAt (x i : W) : M W := match x, i with
  | .str t, .int i => if lenOk t.length then (match L2.atI t i with | some c => ret (.str [c]) | none => fail) else fail
  | .tup ws, .int i => (match L2.atI ws i with | some w => ret w | none => fail)
  | .ref l, i => gets fun L => match L[l]? with
    | some (.lst ws) => (match i with
      | .int i => (match L2.atI ws i with | some w => ret w | none => fail)
      | _ => fail)
    | some (.ro ws) => (match i with
      | .int i => (match L2.atI ws i with | some w => ret w | none => fail)
      | _ => fail)
    | some (.dct tt kvs) => (match keyFit tt i with
      | some k => (match dGet kvs k with | some w => ret w | none => fail)
      | none => fail)
    | _ => fail
  | _, _ => fail
def sliceOf (x : W) (lo hi : Option Int) : M W := match x with
  | .str t => if lenOk t.length then ret (.str (cutL t lo hi)) else fail
  | .tup ws => ret (.tup (cutL ws lo hi))
  | .scr ws => alloc (.lst (cutL ws lo hi))
  | .ref l => gets fun L => match L[l]? with
    | some (.lst ws) => alloc (.lst (cutL ws lo hi))
    | some (.ro ws) => alloc (.lst (cutL ws lo hi))
    | _ => fail
  | _ => fail

/-! ### expressions -/
inductive Bi where | len | absf | maxf | minf | intf | allf | anyf | sortedf | listf | tuplef | strf | reprf | sumf | boolf
  deriving DecidableEq
inductive Bm where | join | append | pop | find | islower | isalpha | startswith | endswith | split | index | indexs
  deriving DecidableEq
/-- a class as isinstance has it: a built-in one, one of the program's -/
inductive Cl where | ty (n : String) | own (c : Nat)
  deriving DecidableEq
mutual
inductive Ex where
  | var (i : Nat) | kn | kb (b : Bool) | ki (i : Int) | ks (x : Txt)
  | gi (g : Str) (i : Int) | gs (g : Str) (x : Txt)
  | bin (op : BOp) (a b : Ex) | neg (a : Ex)
  | cmp (op : COp) (a b : Ex) | chn (o1 o2 : COp) (a b c : Ex)
  | band (xs : List Ex) | bor (xs : List Ex) | bnot (a : Ex)
  | ifx (c : Tx) (a b : Ex)
  | sub (a i : Ex) | slc (a : Ex) (lo hi : Option Ex)
  | lst (xs : List Ex) | tup (xs : List Ex)
  | call (t : Nat) (xs ys : List Ex)
  | bi (b : Bi) (xs : List Ex) | met (m : Bm) (o : Ex) (xs : List Ex)
  | lc (own : List (Str × Nat)) (t : Tgt) (it : It) (cs : List Tx) (x : Ex)
  | fld (o : Ex) (f : Nat) | prp (o : Ex) (m : Nat) | mcall (m : Nat) (o : Ex) (xs ys : List Ex) | mk (c : Nat) (xs ys : List Ex)
  | isi (x : Ex) (c : Cl) | isis (x : Ex) (cs : List Cl)
  | srtset (x : Ex) | lenset (x : Ex)
  | rev (a : Ex) | fst (ps : List Ex) | dnew (tt : Bool) | dsp (ps : List Ex) | dgetd (o k x : Ex)
  | kin (ng : Bool) (x : Ex) (g : Str) (ks : List Txt) | kget (x : Ex) (g : Str) (kvs : List (Txt × W)) | gt (g : Str) (ws : List W)
  | dun (i : Nat) (a b : Ex) | why (x : Ex)
inductive Tx where
  | val (x : Ex) | bv (x : Ex) | all (ts : List Tx) | any (ts : List Tx) | nt (t : Tx)
inductive It where
  | e (x : Ex) | rng (xs : List Ex) | enum (x : Ex) | zip (x y : Ex)
inductive Tgt where
  | nm (i : Nat) | tup (ts : List Tgt) | sub (o i : Ex) | fld (o : Ex) (f : Nat)
end

abbrev Fr := List (Option W)
structure Env where
  call : Nat → List W → M W
  /-- the same by one frame less: what an instance's making, a property calls -/
  callM : Nat → List W → M W := fun _ _ => fail
  /-- a field of a class's instances, that the class itself has not -/
  cf : Nat → Nat → Bool := fun _ _ => false
  /-- a class's method, property: its target -/
  mt : Nat → Nat → Option Nat := fun _ _ => none
  pt : Nat → Nat → Option Nat := fun _ _ => none
  mks : Nat → Option (Nat × Nat) := fun _ => none
  /-- an operator's method: 0 len, 1 repr, 2 in, 3 ==, 4 +, 5 *, 6 bool -/
  du : Nat → Nat → Option Nat := fun _ _ => none
  tag : Nat → Txt := fun _ => []
  /-- is a class below another -/
  sub : Nat → Nat → Bool := fun a b => a == b

def truth : W → M Bool
  | .non => ret false
  | .bl b => ret b
  | .int i => ret (i != 0)
  | .str x => if lenOk x.length then ret (!x.isEmpty) else fail
  | .tup ws => ret (!ws.isEmpty)
  | .ref l => gets fun L => match L[l]? with
    | some (.lst ws) => ret (!ws.isEmpty)
    | some (.ro ws) => ret (!ws.isEmpty)
    | _ => fail
  | _ => fail
/-- flat things, and == among them -/
def flatW : W → Bool
  | .non => true
  | .int _ => true
  | .bl _ => true
  | .str _ => true
  | _ => false
def eqW : W → W → Bool
  | .non, .non => true
  | .bl a, .bl b => a == b
  | .bl a, .int b => (if a then 1 else 0) == b
  | .int a, .bl b => a == (if b then 1 else 0)
  | .int a, .int b => a == b
  | .str a, .str b => a == b
  | _, _ => false
/-- x in y, y a list, a tuple, a dict -/
def inW (L : Hh) (x y : W) : Option Bool := match y with
  | .tup ws => if flatW x && ws.all flatW then some (ws.any fun y => eqW y x) else none
  | .ref l => match L[l]? with
    | some (.lst _) => (match asData L 64 x, asData L 64 (.ref l) with
      | some d, some (.list ds) => if SeqAt.shaped d && SeqAt.shaped (.list ds) then some (ds.any fun z => PyData.eqv z d) else none
      | _, _ => none)
    | some (.dct tt kvs) => (match keyFit tt x with
      | some k => some (dGet kvs k).isSome
      | none => none)
    | _ => none
  | _ => none
def inM (f : Bool → Bool) (x y : W) : M W := gets fun L => match inW L x y with
  | some b => ret (.bl (f b))
  | none => fail
def cmpop : COp → W → W → M W
  | .eq, x, y => bnd (eqop x y) fun b => ret (.bl b)
  | .ne, x, y => bnd (eqop x y) fun b => ret (.bl (!b))
  | .lt, .int i, .int j => ret (.bl (decide (i < j)))
  | .le, .int i, .int j => ret (.bl (decide (i ≤ j)))
  | .gt, .int i, .int j => ret (.bl (decide (j < i)))
  | .ge, .int i, .int j => ret (.bl (decide (j ≤ i)))
  | .is, x, .non => ret (.bl (isNone x))
  | .isn, x, .non => ret (.bl (!isNone x))
  | .inn, .str [c], .str y => ret (.bl (decide (c ∈ y)))
  | .nin, .str [c], .str y => ret (.bl (!decide (c ∈ y)))
  | .inn, x, .tup ws => inM id x (.tup ws)
  | .inn, x, .ref l => inM id x (.ref l)
  | .nin, x, .tup ws => inM not x (.tup ws)
  | .nin, x, .ref l => inM not x (.ref l)
  | _, _, _ => fail
def clsOf (L : Hh) : W → Option Nat
  | .ref l => match L[l]? with
    | some (.ins c _) => some c
    | _ => none
  | _ => none
/-- what is a list's or a tuple's items -/
def itemsOf (L : Hh) : W → Option (List W)
  | .tup ws => some ws
  | .ref l => match L[l]? with
    | some (.lst ws) => some ws
    | some (.ro ws) => some ws
    | _ => none
  | _ => none
def blOf : W → Option Bool
  | .bl b => some b
  | _ => none
def intOf : W → Option Int
  | .int i => some i
  | _ => none
def txtOf : W → Option Txt
  | .str x => some x
  | _ => none
/-- the order of texts, sorting them -/
def txtLe (x y : Txt) : Bool := !ltCps y x
def insT (x : Txt) : List Txt → List Txt
  | [] => [x]
  | y :: ys => if txtLe x y then x :: y :: ys else y :: insT x ys
def sortT : List Txt → List Txt
  | [] => []
  | x :: xs => insT x (sortT xs)
def insI (x : Int) : List Int → List Int
  | [] => [x]
  | y :: ys => if decide (x ≤ y) then x :: y :: ys else y :: insI x ys
def sortI : List Int → List Int
  | [] => []
  | x :: xs => insI x (sortI xs)
def callB : Bi → List W → M W
  | .len, [.str x] => if lenOk x.length then ret (.int x.length) else fail
  | .len, [w] => gets fun L => match itemsOf L w with
    | some ws => ret (.int ws.length)
    | none => fail
  | .intf, [.int i] => ret (.int i)
  | .intf, [.bl b] => ret (.int (if b then 1 else 0))
  | .allf, [.ref l] => gets fun L => match (itemsOf L (.ref l)).bind fun ws => ws.mapM blOf with
    | some bs => ret (.bl (bs.all id))
    | none => fail
  | .anyf, [.ref l] => gets fun L => match (itemsOf L (.ref l)).bind fun ws => ws.mapM blOf with
    | some bs => ret (.bl (bs.any id))
    | none => fail
  | .listf, [.str x] => if lenOk x.length then alloc (.lst (signs x)) else fail
  | .tuplef, [.str x] => if lenOk x.length then ret (.tup (signs x)) else fail
  | .sortedf, [.str x] => if lenOk x.length then alloc (.lst ((sortT (x.map fun c => [c])).map .str)) else fail
  | .listf, [w] => gets fun L => match itemsOf L w with
    | some ws => alloc (.lst ws)
    | none => fail
  | .tuplef, [w] => gets fun L => match itemsOf L w with
    | some ws => ret (.tup ws)
    | none => fail
  | .strf, [.int i] => if decide (i.natAbs.log2 < 1920) then ret (.str (toString i : Str).cps.toList) else fail
  | .strf, [.str x] => ret (.str x)
  | .minf, [.int i, .int j] => ret (.int (if j < i then j else i))
  | .maxf, [.int i, .int j] => ret (.int (if j > i then j else i))
  | .absf, [.int i] => ret (.int (if i < 0 then -i else i))
  | .sortedf, [.ref l] => gets fun L => match itemsOf L (.ref l) with
    | some ws => (match ws.mapM intOf with
      | some is => alloc (.lst ((sortI is).map .int))
      | none => (match ws.mapM txtOf with
        | some ts => if decide (ts.length < 64) then alloc (.lst ((sortT ts).map .str)) else fail
        | none => fail))
    | none => fail
  | _, _ => fail
/-- sep.join(texts) -/
def joinT (sep : Txt) : List Txt → Txt
  | [] => []
  | [x] => x
  | x :: y :: xs => x ++ (sep ++ joinT sep (y :: xs))
def callM : Bm → W → List W → M W
  | .islower, .str x, [] => ret (.bl (PySem.Txt.islower ⟨x.toArray⟩))
  | .isalpha, .str x, [] => ret (.bl (PySem.Txt.isalpha ⟨x.toArray⟩))
  | .pop, .ref l, [] => gets fun L => match L[l]? with
    | some (.lst ws) => (match ws.getLast? with
      | some w => bnd (put l (.lst ws.dropLast)) fun _ => ret w
      | none => fail)
    | _ => fail
  | .find, .str x, [.str y] => ret (.int (PySem.Txt.find ⟨x.toArray⟩ ⟨y.toArray⟩))
  | .startswith, .str x, [.str y] => ret (.bl (PySem.Txt.startswith ⟨x.toArray⟩ ⟨y.toArray⟩))
  | .endswith, .str x, [.str y] => ret (.bl (PySem.Txt.endswith ⟨x.toArray⟩ ⟨y.toArray⟩))
  | .append, .ref l, [w] => gets fun L => match L[l]? with
    | some (.lst ws) => if decide (ws.length < sizeLine) then bnd (put l (.lst (ws ++ [w]))) fun _ => ret .non else fail
    | _ => fail
  | .join, .str sep, [w] => gets fun L => match (itemsOf L w).bind fun ws => ws.mapM txtOf with
    | some ts => if decide ((ts.map List.length).sum + ts.length * sep.length ≤ 16777216) then ret (.str (joinT sep ts)) else fail
    | none => fail
  | _, _, _ => fail
/-- a built-in value's type -/
def typeNm (L : Hh) : W → Option String
  | .non => some "NoneType"
  | .bl _ => some "bool"
  | .int _ => some "int"
  | .str _ => some "str"
  | .tup _ => some "tuple"
  | .ref l => match L[l]? with
    | some (.lst _) => some "list"
    | some (.ro _) => some "list"
    | some (.dct _ _) => some "dict"
    | _ => none
  | _ => none
/-- a method's receiver -/
def rcvOk (L : Hh) : Bm → W → Bool
  | .append, .ref l => (itemsOf L (.ref l)).isSome
  | .pop, .ref l => (itemsOf L (.ref l)).isSome
  | .append, _ => false
  | .pop, _ => false
  | _, .str _ => true
  | _, _ => false
/-- is the value of the class -/
def isKind (sb : Nat → Nat → Bool) (L : Hh) (w : W) : Cl → Option Bool
  | .ty n => (typeNm L w).map fun a => a == n || (a == "bool" && n == "int")
  | .own c => match w with
    | .ref l => (match L[l]? with
      | some (.ins k _) => some (sb k c)
      | some (.lst _) => some false
      | some (.ro _) => some false
      | some (.dct _ _) => some false
      | _ => none)
    | .exn _ _ => none
    | .clo _ _ => none
    | .scr _ => none
    | _ => some false
def anyKind (sb : Nat → Nat → Bool) (L : Hh) (w : W) : List Cl → Option Bool
  | [] => some false
  | c :: cs => match isKind sb L w c, anyKind sb L w cs with
    | some a, some b => some (a || b)
    | _, _ => none

def optI (m : M W) : M (Option Int) := bnd m fun w => match w with
  | .int i => ret (some i)
  | _ => fail
/-! ### what is walked -/
inductive Src where
  | seq (l : Nat) | vals (ws : List W) | rng (lo : Int) (n : Nat) | enum (l : Nat) | zipL (a b : Nat) | zipT (xs ys : List W)
/-- the item at a turn: none: no answer; some none: the end -/
def srcAt (L : Hh) (i : Nat) : Src → Option (Option W)
  | .seq l => (itemsOf L (.ref l)).map fun ws => ws[i]?
  | .vals ws => some ws[i]?
  | .rng lo n => some (if i < n then some (.int (lo + i)) else none)
  | .enum l => (itemsOf L (.ref l)).map fun ws => ws[i]?.map fun w => .tup [.int i, w]
  | .zipL a b => match itemsOf L (.ref a), itemsOf L (.ref b) with
    | some xs, some ys => some (match xs[i]?, ys[i]? with
      | some x, some y => some (.tup [x, y])
      | _, _ => none)
    | _, _ => none
  | .zipT xs ys => some (match xs[i]?, ys[i]? with
      | some x, some y => some (.tup [x, y])
      | _, _ => none)
def fuel : Nat := 1099511627776
/-- a comprehension's turns: f gives the item's value, or nothing -/
def loopC (s : Src) (f : W → M (Option W)) : Nat → Nat → List W → M (List W)
  | 0, _, _ => fail
  | n + 1, i, acc => gets fun L => match srcAt L i s with
    | none => fail
    | some none => ret acc
    | some (some w) => bnd (f w) fun r => match r with
      | none => loopC s f n (i + 1) acc
      | some v => if decide (acc.length < sizeLine) then loopC s f n (i + 1) (acc ++ [v]) else fail
def wipeF (ρ : Fr) : List Nat → Fr
  | [] => ρ
  | v :: vs => (wipeF ρ vs).set v none
def getFld (fs : List (Nat × W)) (f : Nat) : Option W := (fs.find? fun p => p.1 == f).map (·.2)
def putFld (f : Nat) (w : W) : List (Nat × W) → List (Nat × W)
  | [] => [(f, w)]
  | (g, x) :: r => if g = f then (g, w) :: r else (g, x) :: putFld f w r
def smallR (i : Int) : Bool := decide (-(2 ^ 62) ≤ i) && decide (i < 2 ^ 62)
def setItem (o i w : W) : M Unit := match o with
  | .ref l => gets fun L => match L[l]? with
    | some (.lst ws) => (match i with
      | .int k => (match L2.ixN ws.length k with
        | some j => put l (.lst (ws.set j w))
        | none => fail)
      | _ => fail)
    | some (.dct tt kvs) => (match keyFit tt i with
      | some k => if decide (kvs.length < sizeLine) then put l (.dct tt (dPut kvs k w)) else fail
      | none => fail)
    | _ => fail
  | _ => fail
def setFld (C : Env) (o w : W) (f : Nat) : M Unit := match o with
  | .ref l => gets fun L => match L[l]? with
    | some (.ins c fs) => if C.cf c f && decide (fs.length < 900) then put l (.ins c (putFld f w fs)) else fail
    | _ => fail
  | _ => fail
def fldOf (C : Env) (o : W) (f : Nat) : M W := match o with
  | .ref l => gets fun L => match L[l]? with
    | some (.ins c fs) => if C.cf c f then (match getFld fs f with
      | some w => ret w
      | none => fail) else fail
    | _ => fail
  | _ => fail
def propOf (C : Env) (o : W) (m : Nat) : M W := gets fun L => match (clsOf L o).bind fun c => C.pt c m with
  | some t => noX (C.callM t [o])
  | none => fail
def makeOf (C : Env) (k : Nat) (as : List W) : M W := match C.mks k with
  | some (c, t) => bnd (alloc (.ins c [])) fun o => bnd (C.callM t (o :: as)) fun r => match r with
    | .non => ret o
    | _ => fail
  | none => fail
def dedup {α : Type} [DecidableEq α] : List α → List α
  | [] => []
  | x :: xs => if x ∈ dedup xs then dedup xs else x :: dedup xs
/-- sorted(set(x)), len(set(x)) -/
def sortSet : W → M W
  | .str x => if decide (x.length < 4000) then alloc (.lst ((sortT (dedup (x.map fun c => [c]))).map .str)) else fail
  | _ => fail
def lenSet (w : W) : M W := gets fun L => match (itemsOf L w).bind fun ws => ws.mapM intOf with
  | some is => ret (.int (dedup is).length)
  | none => fail

/-- an operator's own method -/
def callDu (C : Env) (i : Nat) (o : W) (as : List W) : M W := gets fun L => match (clsOf L o).bind fun c => C.du c i with
  | some t => C.call t (o :: as)
  | none => fail
def blM (f : Bool → Bool) (m : M W) : M W := bnd m fun r => match r with
  | .bl b => ret (.bl (f b))
  | _ => fail
def cmpX (C : Env) (op : COp) (x y : W) : M W := gets fun L => match op with
  | .eq => if (clsOf L x).isSome = true then blM id (callDu C 3 x [y]) else cmpop .eq x y
  | .ne => if (clsOf L x).isSome = true then blM not (callDu C 3 x [y]) else cmpop .ne x y
  | .inn => if (clsOf L y).isSome = true then blM id (callDu C 2 y [x]) else cmpop .inn x y
  | .nin => if (clsOf L y).isSome = true then blM not (callDu C 2 y [x]) else cmpop .nin x y
  | op => cmpop op x y
def lenM (m : M W) : M W := bnd m fun r => match r with
  | .int n => if decide (0 ≤ n) && decide (n < 2 ^ 63) then ret (.int n) else fail
  | _ => fail
def strM (m : M W) : M W := bnd m fun r => match r with
  | .str x => ret (.str x)
  | _ => fail
def callBX (C : Env) (b : Bi) (ws : List W) : M W := match b, ws with
  | .len, [w] => gets fun L => if (clsOf L w).isSome = true then lenM (callDu C 0 w []) else callB .len [w]
  | .reprf, [w] => gets fun L => if (clsOf L w).isSome = true then strM (callDu C 1 w []) else callB .reprf [w]
  | b, ws => callB b ws
/-- a part of an f-string -/
def fmtW : W → Option Txt
  | .str x => if lenOk x.length then some x else none
  | .int i => if decide (i.natAbs.log2 < 1920) then some (toString i : Str).cps.toList else none
  | _ => none
def revOf (w : W) : M W := match w with
  | .ref l => gets fun L => match itemsOf L (.ref l) with
    | some ws => alloc (.lst ws.reverse)
    | none => fail
  | _ => fail
/-- d.get(k, x) -/
def getD (o k x : W) : M W := gets fun L => match dctAt L o with
  | some (tt, kvs) => (match keyFit tt k with
    | some k => ret ((dGet kvs k).getD x)
    | none => fail)
  | none => fail
/-- what an error is told as -/
def whyW (C : Env) : W → Option W
  | .exn c fs => some (.tup [.str (C.tag c), fs.headD .non])
  | _ => none
mutual
def evE (C : Env) (ρ : Fr) : Ex → M W
  | .var i => (match ρ[i]? with
    | some (some w) => ret w
    | _ => fail)
  | .kn => ret .non
  | .kb b => ret (.bl b)
  | .ki i => ret (.int i)
  | .ks x => ret (.str x)
  | .gi _ i => ret (.int i)
  | .gs _ x => ret (.str x)
  | .bin op a b => bnd (evE C ρ a) fun x => bnd (evE C ρ b) fun y => binop op x y
  | .neg a => bnd (evE C ρ a) fun x => match x with
    | .int i => ret (.int (-i))
    | _ => fail
  | .cmp op a b => bnd (evE C ρ a) fun x => bnd (evE C ρ b) fun y => cmpX C op x y
  | .chn o1 o2 a b c => bnd (evE C ρ a) fun x => bnd (evE C ρ b) fun y => bnd (cmpop o1 x y) fun r => match r with
    | .bl true => bnd (evE C ρ c) fun z => cmpop o2 y z
    | .bl false => ret (.bl false)
    | _ => fail
  | .band xs => evAnd C ρ xs
  | .bor xs => evOr C ρ xs
  | .bnot a => bnd (evE C ρ a) fun x => bnd (truth x) fun b => ret (.bl (!b))
  | .ifx c a b => bnd (evT C ρ c) fun t => if t = true then evE C ρ a else evE C ρ b
  | .sub a i => bnd (evE C ρ a) fun x => bnd (evE C ρ i) fun y => itemAt x y
  | .slc a lo hi => bnd (evE C ρ a) fun x => bnd (evO C ρ lo) fun l => bnd (evO C ρ hi) fun h => sliceOf x l h
  | .lst xs => bnd (evEs C ρ xs) fun ws => if lenOk ws.length then alloc (.lst ws) else fail
  | .tup xs => bnd (evEs C ρ xs) fun ws => if lenOk ws.length then ret (.tup ws) else fail
  | .call t xs ys => bnd (evEs C ρ xs) fun ws => bnd (evEs C ρ ys) fun zs => C.call t (ws ++ zs)
  | .bi b xs => bnd (evEs C ρ xs) fun ws => callBX C b ws
  | .met m o xs => bnd (evE C ρ o) fun x => gets fun L => if rcvOk L m x then bnd (evEs C ρ xs) fun ws => callM m x ws else fail
  | .lc own t it cs x => bnd (evI C ρ it) fun s => noX (bnd (loopC s (fun w => bnd (asgT C t w (wipeF ρ (own.map (·.2)))) fun ρ1 => bnd (tsAnd C ρ1 cs) fun b => if b = true then bnd (evE C ρ1 x) fun v => ret (some v) else ret none) fuel 0 []) fun ws => alloc (.lst ws))
  | .fld o f => bnd (evE C ρ o) fun x => fldOf C x f
  | .prp o m => bnd (evE C ρ o) fun x => propOf C x m
  | .mcall m o xs ys => bnd (evE C ρ o) fun x => gets fun L => match (clsOf L x).bind fun c => C.mt c m with
    | some t => bnd (evEs C ρ xs) fun ws => bnd (evEs C ρ ys) fun zs => C.call t (x :: (ws ++ zs))
    | none => fail
  | .mk c xs ys => bnd (evEs C ρ xs) fun ws => bnd (evEs C ρ ys) fun zs => makeOf C c (ws ++ zs)
  | .isi x c => bnd (evE C ρ x) fun w => gets fun L => match isKind C.sub L w c with
    | some b => ret (.bl b)
    | none => fail
  | .isis x cs => bnd (evE C ρ x) fun w => gets fun L => if cs ≠ [] ∧ cs.length < 64 then match anyKind C.sub L w cs with
    | some b => ret (.bl b)
    | none => fail else fail
  | .srtset x => bnd (evE C ρ x) sortSet
  | .lenset x => bnd (evE C ρ x) lenSet
  | .rev x => bnd (evE C ρ x) revOf
  | .fst ps => bnd (evFs C ρ ps []) fun t => ret (.str t)
  | .dnew tt => alloc (.dct tt [])
  | .dsp ps => bnd (evPs C ρ ps) fun kvs => if decide (kvs.length ≤ 15) then alloc (.dct false (kvs.foldl (fun acc p => dPut acc p.1 p.2) [])) else fail
  | .dgetd o k x => bnd (evE C ρ o) fun d => gets fun L => if (dctAt L d).isSome = true then bnd (evE C ρ k) fun kv => bnd (evE C ρ x) fun xv => getD d kv xv else fail
  | .kin ng x _ ks => bnd (evE C ρ x) fun w => match w with
    | .str t => ret (.bl (if ng = true then !decide (t ∈ ks) else decide (t ∈ ks)))
    | _ => fail
  | .kget x _ kvs => bnd (evE C ρ x) fun w => match w with
    | .str t => (match kvs.lookup t with
      | some v => ret v
      | none => fail)
    | _ => fail
  | .gt _ ws => ret (.tup ws)
  | .dun i a b => bnd (evE C ρ a) fun x => bnd (evE C ρ b) fun y => gets fun L => if (clsOf L x).isSome = true ∧ clsOf L x = clsOf L y then callDu C i x [y] else fail
  | .why x => fun L => match evE C ρ x L with
    | .ok w L1 => .ok (.tup [.str [], w]) L1
    | .exc e L1 => (match whyW C e with
      | some w => .ok w L1
      | none => .bad)
    | .bad => .bad
def evEs (C : Env) (ρ : Fr) : List Ex → M (List W)
  | [] => ret []
  | x :: xs => bnd (evE C ρ x) fun w => bnd (evEs C ρ xs) fun ws => ret (w :: ws)
def evFs (C : Env) (ρ : Fr) : List Ex → Txt → M Txt
  | [], acc => ret acc
  | x :: xs, acc => bnd (evE C ρ x) fun w => match fmtW w with
    | some y => if lenOk (acc.length + y.length) then evFs C ρ xs (acc ++ y) else fail
    | none => fail
def evPs (C : Env) (ρ : Fr) : List Ex → M (List (Ky × W))
  | [] => ret []
  | [_] => fail
  | k :: v :: r => bnd (evE C ρ k) fun kw => bnd (evE C ρ v) fun vw => bnd (evPs C ρ r) fun ps => match keyFit false kw with
    | some ky => ret ((ky, vw) :: ps)
    | none => fail
def evO (C : Env) (ρ : Fr) : Option Ex → M (Option Int)
  | none => ret none
  | some x => optI (evE C ρ x)
def evAnd (C : Env) (ρ : Fr) : List Ex → M W
  | [] => ret (.bl true)
  | x :: xs => bnd (evE C ρ x) fun w => if xs.isEmpty then ret w else match w with
    | .bl true => evAnd C ρ xs
    | .bl false => ret (.bl false)
    | _ => fail
def evOr (C : Env) (ρ : Fr) : List Ex → M W
  | [] => ret (.bl false)
  | x :: xs => bnd (evE C ρ x) fun w => if xs.isEmpty then ret w else match w with
    | .bl true => ret (.bl true)
    | .bl false => evOr C ρ xs
    | _ => fail
def evT (C : Env) (ρ : Fr) : Tx → M Bool
  | .val x => bnd (evE C ρ x) truth
  | .bv x => bnd (evE C ρ x) fun w => match w with
    | .bl b => ret b
    | _ => fail
  | .all ts => tsAnd C ρ ts
  | .any ts => tsOr C ρ ts
  | .nt t => bnd (evT C ρ t) fun b => ret (!b)
def tsAnd (C : Env) (ρ : Fr) : List Tx → M Bool
  | [] => ret true
  | x :: xs => bnd (evT C ρ x) fun b => if b = true then tsAnd C ρ xs else ret false
def tsOr (C : Env) (ρ : Fr) : List Tx → M Bool
  | [] => ret false
  | x :: xs => bnd (evT C ρ x) fun b => if b = true then ret true else tsOr C ρ xs
def evI (C : Env) (ρ : Fr) : It → M Src
  | .e x => bnd (evE C ρ x) fun w => match w with
    | .ref l => gets fun L => (match itemsOf L (.ref l) with
      | some _ => ret (.seq l)
      | none => fail)
    | .tup ws => ret (.vals ws)
    | .str x => ret (.vals (signs x))
    | _ => fail
  | .rng xs => bnd (evEs C ρ xs) fun ws => match ws with
    | [.int n] => if smallR n then ret (.rng 0 n.toNat) else fail
    | [.int a, .int b] => if smallR a && smallR b then ret (.rng a (b - a).toNat) else fail
    | _ => fail
  | .enum x => bnd (evE C ρ x) fun w => match w with
    | .ref l => gets fun L => (match itemsOf L (.ref l) with
      | some _ => ret (.enum l)
      | none => fail)
    | _ => fail
  | .zip x y => bnd (evE C ρ x) fun w => bnd (evE C ρ y) fun v => match w, v with
    | .ref a, .ref b => gets fun L => (match itemsOf L (.ref a), itemsOf L (.ref b) with
      | some _, some _ => ret (.zipL a b)
      | _, _ => fail)
    | .tup xs, .tup ys => ret (.zipT xs ys)
    | _, _ => fail
def asgT (C : Env) : Tgt → W → Fr → M Fr
  | .nm i, w, ρ => ret (ρ.set i (some w))
  | .tup ts, w, ρ => (match w with
    | .tup ws => asgTs C ts ws ρ
    | _ => fail)
  | .sub o i, w, ρ => bnd (evE C ρ o) fun x => bnd (evE C ρ i) fun y => bnd (setItem x y w) fun _ => ret ρ
  | .fld o f, w, ρ => bnd (evE C ρ o) fun x => bnd (setFld C x w f) fun _ => ret ρ
def asgTs (C : Env) : List Tgt → List W → Fr → M Fr
  | [], ws, ρ => if ws.isEmpty then ret ρ else fail
  | t :: ts, ws, ρ => (match ws with
    | w :: ws => bnd (asgT C t w ρ) fun ρ1 => asgTs C ts ws ρ1
    | [] => fail)
end
/-! ### statements -/
inductive Sm where
  | asg (t : Tgt) (x : Ex) | aug (i : Nat) (op : BOp) (x : Ex) | augf (o : Ex) (f : Nat) (op : BOp) (x : Ex)
  | exp (x : Ex) | ifs (c : Tx) (a b : List Sm) | whl (c : Tx) (b : List Sm) | fors (t : Tgt) (it : It) (b : List Sm)
  | rtn (x : Ex) | rtnN | pas | brk | cnt | nev | rse (c : Nat) (xs : List Ex)
inductive Fl where | nx | rt (w : W) | bk | ct | ex (e : W)
/-- an expression within a statement: an exception ends the statement -/
def sx {α : Type} (ρ : Fr) (m : M α) (k : α → M (Fl × Fr)) : M (Fl × Fr) := fun L => match m L with
  | .ok a L1 => k a L1
  | .exc e L1 => .ok (.ex e, ρ) L1
  | .bad => .bad
@[simp] theorem wp_sx {α : Type} {ρ : Fr} {m : M α} {k : α → M (Fl × Fr)} {L : Hh} {Q : Fl × Fr → Hh → Prop} {E : W → Hh → Prop} : wp (sx ρ m k) L Q E = wp m L (fun a L1 => wp (k a) L1 Q E) (fun e L1 => Q (.ex e, ρ) L1) := by
  unfold wp sx
  cases m L <;> rfl
def loopW (c : Fr → M Bool) (b : Fr → M (Fl × Fr)) : Nat → Fr → M (Fl × Fr)
  | 0, _ => fail
  | n + 1, ρ => sx ρ (c ρ) fun t => if t = true then bnd (b ρ) fun r => (match r.1 with
      | .nx => loopW c b n r.2
      | .ct => loopW c b n r.2
      | .bk => ret (.nx, r.2)
      | .rt w => ret (.rt w, r.2)
      | .ex e => ret (.ex e, r.2)) else ret (.nx, ρ)
def loopF (s : Src) (g : W → Fr → M Fr) (b : Fr → M (Fl × Fr)) : Nat → Nat → Fr → M (Fl × Fr)
  | 0, _, _ => fail
  | n + 1, i, ρ => gets fun L => match srcAt L i s with
    | none => fail
    | some none => ret (.nx, ρ)
    | some (some w) => sx ρ (g w ρ) fun ρ1 => bnd (b ρ1) fun r => (match r.1 with
      | .nx => loopF s g b n (i + 1) r.2
      | .ct => loopF s g b n (i + 1) r.2
      | .bk => ret (.nx, r.2)
      | .rt w => ret (.rt w, r.2)
      | .ex e => ret (.ex e, r.2))
/-- a op= b -/
def iop : BOp → W → W → M W
  | .add, .int i, .int j => ret (.int (i + j))
  | .add, .str x, .str y => if lenOk (x.length + y.length) then ret (.str (x ++ y)) else fail
  | .sub, .int i, .int j => ret (.int (i - j))
  | .add, .ref a, .ref b => gets fun L => match L[a]?, L[b]? with
    | some (.lst x), some (.lst y) => if lenOk (x.length + y.length) then bnd (put a (.lst (x ++ y))) fun _ => ret (.ref a) else fail
    | _, _ => fail
  | _, _, _ => fail
mutual
def exS (C : Env) : Sm → Fr → M (Fl × Fr)
  | .asg t x, ρ => sx ρ (evE C ρ x) fun w => sx ρ (asgT C t w ρ) fun ρ1 => ret (.nx, ρ1)
  | .aug i op x, ρ => (match ρ[i]? with
    | some (some v) => sx ρ (evE C ρ x) fun w => sx ρ (iop op v w) fun z => ret (.nx, ρ.set i (some z))
    | _ => fail)
  | .augf o f op x, ρ => sx ρ (evE C ρ o) fun ov => sx ρ (fldOf C ov f) fun v => sx ρ (evE C ρ x) fun w => sx ρ (iop op v w) fun z => sx ρ (setFld C ov z f) fun _ => ret (.nx, ρ)
  | .exp x, ρ => sx ρ (evE C ρ x) fun _ => ret (.nx, ρ)
  | .ifs c a b, ρ => sx ρ (evT C ρ c) fun t => if t = true then exSs C a ρ else exSs C b ρ
  | .whl c b, ρ => loopW (fun ρ => evT C ρ c) (fun ρ => exSs C b ρ) fuel ρ
  | .fors t it b, ρ => sx ρ (evI C ρ it) fun s => loopF s (fun w ρ => asgT C t w ρ) (fun ρ => exSs C b ρ) fuel 0 ρ
  | .rtn x, ρ => sx ρ (evE C ρ x) fun w => ret (.rt w, ρ)
  | .rtnN, ρ => ret (.rt .non, ρ)
  | .pas, ρ => ret (.nx, ρ)
  | .brk, ρ => ret (.bk, ρ)
  | .cnt, ρ => ret (.ct, ρ)
  | .nev, _ => fail
  | .rse c xs, ρ => sx ρ (evEs C ρ xs) fun ws => ret (.ex (.exn c ws), ρ)
def exSs (C : Env) : List Sm → Fr → M (Fl × Fr)
  | [], ρ => ret (.nx, ρ)
  | x :: xs, ρ => bnd (exS C x ρ) fun r => match r.1 with
    | .nx => exSs C xs r.2
    | .rt w => ret (.rt w, r.2)
    | .bk => ret (.bk, r.2)
    | .ct => ret (.ct, r.2)
    | .ex e => ret (.ex e, r.2)
end
/-- a def: its slots, its body -/
structure Df where
  slots : Nat
  body : List Sm
/-- what is done with a body's end -/
def endOf : Fl × Fr → M W
  | (.nx, _) => ret .non
  | (.rt w, _) => ret w
  | (.ex e, _) => thr e
  | _ => fail
def runD (C : Env) (f : Df) (as : List W) : M W := if decide (as.length ≤ f.slots) then bnd (exSs C f.body (as.map some ++ List.replicate (f.slots - as.length) none)) endOf else fail
example : evE { call := fun _ _ => fail } [some (.int 5)] (.ifx (.all [.bv (.cmp .lt (.var 0) (.ki 7)), .val (.kb true)]) (.bin .add (.var 0) (.ki 2)) (.ki 0)) [] = .ok (.int 7) [] := rfl
example : runD { call := fun _ _ => fail } ⟨3, [.asg (.nm 1) (.ki 0), .fors (.nm 2) (.rng [.var 0]) [.aug 1 .add (.var 2)], .rtn (.var 1)]⟩ [.int 5] [] = .ok (.int 10) [] := rfl
example : runD { call := fun _ _ => fail } ⟨2, [.rtn (.lc [(Str.empty, 1)] (.nm 1) (.e (.var 0)) [.nt (.bv (.cmp .eq (.var 1) (.ks [98])))] (.bin .add (.var 1) (.ks [120])))]⟩ [.str [97, 98, 99]] [] = .ok (.ref 0) [.lst [.str [97, 120], .str [99, 120]]] := by kernel_rfl

end Dx

set_option maxRecDepth 100000
set_option maxHeartbeats 2000000
/-! Dx2: what the evaluator's values and heaps stand for. -/
namespace Dx
open PySem PySem.Spec PyProof.Rows L2

structure G where
  P : Program
  w : World
  K : PySem.W.Frag
  mg : Str → Option Value
  base : Heap
  CN : List Str
  FN : List Str
  rx : List Addr → Hp → W → Value → Option Addr → Prop

/-- the law's script: it never changes -/
def Scr (K : PySem.W.Frag) (H : Hp) (a : Addr) (xs : List V) : Prop := (∃ o, H a = some (.frz o (.lst xs))) ∨ ∃ (o : Obj) (its : Array Value) (n : Nat), K.lookup a = some o ∧ o.cls = .type "list" ∧ o.dict = none ∧ o.data = .seq its n ∧ its.size ≤ sizeLine ∧ Vals xs its.toList
theorem Scr.sq {K : PySem.W.Frag} {H : Hp} {a : Addr} {xs : List V} (h : Scr K H a xs) : SqL K H a xs := by
  rcases h with ⟨o, h⟩ | h
  · exact .inl (.inr ⟨o, h⟩)
  · exact .inr h
mutual
inductive RelW (K : PySem.W.Frag) (m : List Addr) (H : Hp) : W → V → Prop
  | non : RelW K m H .non .non
  | bl (b : Bool) : RelW K m H (.bl b) (.bl b)
  | int (i : Int) : RelW K m H (.int i) (.int i)
  | str (x : Txt) : RelW K m H (.str x) (.str ⟨x.toArray⟩)
  | tup {a : Addr} {xs : List V} {ws : List W} (h : H a = some (.tup xs)) (hr : RelWs K m H ws xs) : RelW K m H (.tup ws) (.ref a)
  | ref {l : Nat} {a : Addr} (h : m[l]? = some a) : RelW K m H (.ref l) (.ref a)
  | scr {a : Addr} {xs : List V} {ws : List W} (h : Scr K H a xs) (hr : RelWs K m H ws xs) : RelW K m H (.scr ws) (.ref a)
inductive RelWs (K : PySem.W.Frag) (m : List Addr) (H : Hp) : List W → List V → Prop
  | nil : RelWs K m H [] []
  | cons {w : W} {v : V} {ws : List W} {vs : List V} (h : RelW K m H w v) (hr : RelWs K m H ws vs) : RelWs K m H (w :: ws) (v :: vs)
end

def kS : Key → Int ⊕ Txt
  | .inl i => .inl i
  | .inr x => .inr x.cps.toList
def kyK : Key → Ky
  | .inl i => .i i
  | .inr x => .s x.cps.toList
def kyT (ks : List Key) : Ky := .t (ks.map kS)
def RelO (g : G) (m : List Addr) (H : Hp) (a : Addr) : O → Prop
  | .lst ws => ∃ xs, H a = some (.lst xs) ∧ RelWs g.K m H ws xs
  | .ro ws => ∃ o xs, H a = some (.frz o (.lst xs)) ∧ RelWs g.K m H ws xs
  | .dct false kvs => ∃ qs : List (Key × V), H a = some (.dK qs) ∧ kvs.map (·.1) = qs.map (fun q => kyK q.1) ∧ RelWs g.K m H (kvs.map (·.2)) (qs.map (·.2))
  | .dct true kvs => ∃ qs : List (List Key × V), H a = some (.dT qs) ∧ kvs.map (·.1) = qs.map (fun q => kyT q.1) ∧ RelWs g.K m H (kvs.map (·.2)) (qs.map (·.2))
  | .ins c fs => ∃ (dx : Addr) (qs : List (Str × V)), H a = some (.ins (He.ga g.K (g.CN.getD c Str.empty)) dx qs) ∧ qs.map (·.1) = fs.map (fun p => g.FN.getD p.1 Str.empty) ∧ (∀ p ∈ fs, p.1 < g.FN.length) ∧ RelWs g.K m H (fs.map (·.2)) (qs.map (·.2)) ∧ c < g.CN.length

/-- what a value's relation leans on -/
structure Ex0 (m : List Addr) (H : Hp) (m' : List Addr) (H' : Hp) : Prop where
  at_ : ∀ (l : Nat) (a : Addr), m[l]? = some a → m'[l]? = some a
  tups : ∀ a xs, H a = some (.tup xs) → H' a = some (.tup xs)
  frzs : ∀ a o u, H a = some (.frz o u) → H' a = some (.frz o u)
/-- what a run leaves: new objects, the written ones; all else stays -/
structure Ext (m : List Addr) (H : Hp) (m' : List Addr) (H' : Hp) : Prop where
  pre : ∃ k, m' = m ++ k ∧ ∀ a ∈ k, H a = none
  tups : ∀ a xs, H a = some (.tup xs) → H' a = some (.tup xs)
  frzs : ∀ a o u, H a = some (.frz o u) → H' a = some (.frz o u)
  out : ∀ a u, H a = some u → a ∉ m → (∀ ps, u ≠ .tbl ps) → H' a = some u
  keep : ∀ a, H' a = none → H a = none
theorem Ext.x0 {m m' : List Addr} {H H' : Hp} (e : Ext m H m' H') : Ex0 m H m' H' := ⟨fun l a h => by
  obtain ⟨k, rfl, _⟩ := e.pre
  obtain ⟨hl, _⟩ := List.getElem?_eq_some_iff.mp h
  rw [List.getElem?_append_left hl]
  exact h, e.tups, e.frzs⟩
theorem Ext.refl (m : List Addr) (H : Hp) : Ext m H m H := ⟨⟨[], by simp, by simp⟩, fun _ _ h => h, fun _ _ _ h => h, fun _ _ h _ _ => h, fun _ h => h⟩
theorem Ext.trans {m m1 m2 : List Addr} {H H1 H2 : Hp} (a : Ext m H m1 H1) (b : Ext m1 H1 m2 H2) : Ext m H m2 H2 := by
  obtain ⟨k, rfl, hk⟩ := a.pre
  obtain ⟨k2, rfl, hk2⟩ := b.pre
  refine ⟨⟨k ++ k2, by simp, fun x hx => ?_⟩, fun x xs h => b.tups x xs (a.tups x xs h), fun x o u h => b.frzs x o u (a.frzs x o u h), fun x u h n nt => ?_, fun x h => a.keep x (b.keep x h)⟩
  · rcases List.mem_append.mp hx with h | h
    · exact hk x h
    · exact a.keep x (hk2 x h)
  · refine b.out x u (a.out x u h n nt) (fun hx => ?_) nt
    rcases List.mem_append.mp hx with q | q
    · exact n q
    · rw [hk x q] at h
      cases h
/-- tracked objects stay, new ones come -/
theorem Ext.same {m : List Addr} {H H' : Hp} (k : ∀ a u, H a = some u → H' a = some u) : Ext m H m H' := ⟨⟨[], by simp, by simp⟩, fun a xs h => k _ _ h, fun a o u h => k _ _ h, fun a u h _ _ => k _ _ h, fun a h => by
  cases e : H a with
  | none => rfl
  | some u => rw [k _ _ e] at h; cases h⟩
theorem Ex0.sqT {K : PySem.W.Frag} {m m' : List Addr} {H H' : Hp} (e : Ex0 m H m' H') {a : Addr} {xs : List V} (h : SqT K H a xs) : SqT K H' a xs := by
  rcases h with (h | ⟨o, h⟩) | h
  · exact .inl (.inl (e.tups _ _ h))
  · exact .inl (.inr ⟨o, e.frzs _ _ _ h⟩)
  · exact .inr h
theorem Ex0.scr {K : PySem.W.Frag} {m m' : List Addr} {H H' : Hp} (e : Ex0 m H m' H') {a : Addr} {xs : List V} (h : Scr K H a xs) : Scr K H' a xs := by
  rcases h with ⟨o, h⟩ | h
  · exact .inl ⟨o, e.frzs _ _ _ h⟩
  · exact .inr h
mutual
theorem RelW.mono0 {K : PySem.W.Frag} {m m' : List Addr} {H H' : Hp} (e : Ex0 m H m' H') : ∀ {w : W} {v : V}, RelW K m H w v → RelW K m' H' w v
  | _, _, .non => .non
  | _, _, .bl b => .bl b
  | _, _, .int i => .int i
  | _, _, .str x => .str x
  | _, _, .tup h hr => .tup (e.tups _ _ h) (RelWs.mono0 e hr)
  | _, _, .ref h => .ref (e.at_ _ _ h)
  | _, _, .scr h hr => .scr (e.scr h) (RelWs.mono0 e hr)
theorem RelWs.mono0 {K : PySem.W.Frag} {m m' : List Addr} {H H' : Hp} (e : Ex0 m H m' H') : ∀ {ws : List W} {vs : List V}, RelWs K m H ws vs → RelWs K m' H' ws vs
  | _, _, .nil => .nil
  | _, _, .cons h hr => .cons (RelW.mono0 e h) (RelWs.mono0 e hr)
end
theorem RelW.mono {K : PySem.W.Frag} {m m' : List Addr} {H H' : Hp} (e : Ext m H m' H') {w : W} {v : V} (h : RelW K m H w v) : RelW K m' H' w v := h.mono0 e.x0
theorem RelWs.mono {K : PySem.W.Frag} {m m' : List Addr} {H H' : Hp} (e : Ext m H m' H') {ws : List W} {vs : List V} (h : RelWs K m H ws vs) : RelWs K m' H' ws vs := h.mono0 e.x0
section
variable {K : PySem.W.Frag} {m : List Addr} {H : Hp}
theorem RelWs.length {ws : List W} {vs : List V} (h : RelWs K m H ws vs) : ws.length = vs.length := by
  induction ws generalizing vs with
  | nil => cases h; rfl
  | cons w ws ih =>
    cases h with
    | cons a b => simp [ih b]
theorem RelWs.append {ws ws' : List W} {vs vs' : List V} (h : RelWs K m H ws vs) (h' : RelWs K m H ws' vs') : RelWs K m H (ws ++ ws') (vs ++ vs') := by
  induction ws generalizing vs with
  | nil => cases h; exact h'
  | cons w ws ih =>
    cases h with
    | cons a b => exact .cons a (ih b)
theorem RelWs.one {w : W} {v : V} (h : RelW K m H w v) : RelWs K m H [w] [v] := .cons h .nil
theorem RelWs.get {ws : List W} {vs : List V} (h : RelWs K m H ws vs) {i : Nat} {w : W} (e : ws[i]? = some w) : ∃ v, vs[i]? = some v ∧ RelW K m H w v := by
  induction ws generalizing vs i with
  | nil => simp at e
  | cons x ws ih =>
    cases h with
    | @cons _ y _ ys a b =>
      cases i with
      | zero => simp at e; subst e; exact ⟨y, rfl, a⟩
      | succ i => exact ih b (by simpa using e)
theorem RelWs.set {ws : List W} {vs : List V} (h : RelWs K m H ws vs) {i : Nat} {w : W} {v : V} (r : RelW K m H w v) : RelWs K m H (ws.set i w) (vs.set i v) := by
  induction ws generalizing vs i with
  | nil => cases h; exact .nil
  | cons x ws ih =>
    cases h with
    | cons a b =>
      cases i with
      | zero => exact .cons r b
      | succ i => exact .cons a (ih b)
theorem RelWs.drop {ws : List W} {vs : List V} (h : RelWs K m H ws vs) (n : Nat) : RelWs K m H (ws.drop n) (vs.drop n) := by
  induction n generalizing ws vs with
  | zero => exact h
  | succ n ih =>
    cases h with
    | nil => exact .nil
    | cons a b => exact ih b
theorem RelWs.take {ws : List W} {vs : List V} (h : RelWs K m H ws vs) (n : Nat) : RelWs K m H (ws.take n) (vs.take n) := by
  induction n generalizing ws vs with
  | zero => exact .nil
  | succ n ih =>
    cases h with
    | nil => exact .nil
    | cons a b => exact .cons a (ih b)
theorem RelWs.reverse {ws : List W} {vs : List V} (h : RelWs K m H ws vs) : RelWs K m H ws.reverse vs.reverse := by
  induction ws generalizing vs with
  | nil => cases h; exact .nil
  | cons w ws ih =>
    cases h with
    | cons a b => rw [List.reverse_cons, List.reverse_cons]; exact (ih b).append (.one a)
theorem RelWs.dropLast {ws : List W} {vs : List V} (h : RelWs K m H ws vs) : RelWs K m H ws.dropLast vs.dropLast := by
  rw [List.dropLast_eq_take, List.dropLast_eq_take, h.length]
  exact h.take _
theorem RelWs.isEmpty {ws : List W} {vs : List V} (h : RelWs K m H ws vs) : ws.isEmpty = vs.isEmpty := by cases h <;> rfl
end
theorem RelO.mono {g : G} {m m' : List Addr} {H H' : Hp} {a : Addr} {o : O} (e : Ex0 m H m' H') (k : ∀ u, H a = some u → H' a = some u) (r : RelO g m H a o) : RelO g m' H' a o := by
  cases o with
  | lst ws => obtain ⟨xs, h, q⟩ := r; exact ⟨xs, k _ h, q.mono0 e⟩
  | ro ws => obtain ⟨o, xs, h, q⟩ := r; exact ⟨o, xs, k _ h, q.mono0 e⟩
  | dct tt kvs =>
    cases tt
    · obtain ⟨qs, h, q1, q2⟩ := r; exact ⟨qs, k _ h, q1, q2.mono0 e⟩
    · obtain ⟨qs, h, q1, q2⟩ := r; exact ⟨qs, k _ h, q1, q2.mono0 e⟩
  | ins c fs => obtain ⟨dx, qs, h, q1, q3, q2, q9⟩ := r; exact ⟨dx, qs, k _ h, q1, q3, q2.mono0 e, q9⟩
theorem RelO.there {g : G} {m : List Addr} {H : Hp} {a : Addr} {o : O} (r : RelO g m H a o) : ∃ u, H a = some u := by
  cases o with
  | lst ws => obtain ⟨xs, h, q⟩ := r; exact ⟨_, h⟩
  | ro ws => obtain ⟨o, xs, h, q⟩ := r; exact ⟨_, h⟩
  | dct tt kvs =>
    cases tt
    · obtain ⟨qs, h, q1, q2⟩ := r; exact ⟨_, h⟩
    · obtain ⟨qs, h, q1, q2⟩ := r; exact ⟨_, h⟩
  | ins c fs => obtain ⟨dx, qs, h, q1, q3, q2⟩ := r; exact ⟨_, h⟩
/-- a logical object that may be written -/
def O.mut : O → Bool
  | .ro _ => false
  | _ => true
theorem RelO.noTup {g : G} {m : List Addr} {H : Hp} {a : Addr} {o : O} (r : RelO g m H a o) (hm : o.mut = true) : (∀ xs, H a ≠ some (.tup xs)) ∧ ∀ ob u, H a ≠ some (.frz ob u) := by
  cases o with
  | lst ws => obtain ⟨xs, h, q⟩ := r; exact ⟨fun _ z => (by rw [h] at z; cases z), fun _ _ z => (by rw [h] at z; cases z)⟩
  | ro ws => cases hm
  | dct tt kvs =>
    cases tt
    · obtain ⟨qs, h, q1, q2⟩ := r; exact ⟨fun _ z => (by rw [h] at z; cases z), fun _ _ z => (by rw [h] at z; cases z)⟩
    · obtain ⟨qs, h, q1, q2⟩ := r; exact ⟨fun _ z => (by rw [h] at z; cases z), fun _ _ z => (by rw [h] at z; cases z)⟩
  | ins c fs => obtain ⟨dx, qs, h, q1, q3, q2⟩ := r; exact ⟨fun _ z => (by rw [h] at z; cases z), fun _ _ z => (by rw [h] at z; cases z)⟩

structure Sim (g : G) (m : List Addr) (L : Hh) (H : Hp) : Prop where
  len : m.length = L.length
  nd : m.Nodup
  ob : ∀ (l : Nat) (a : Addr) (o : O), m[l]? = some a → L[l]? = some o → RelO g m H a o
section
variable {g : G} {m : List Addr} {L : Hh} {H : Hp}
theorem Sim.addr (S : Sim g m L H) {l : Nat} {o : O} (h : L[l]? = some o) : ∃ a, m[l]? = some a ∧ RelO g m H a o := by
  obtain ⟨hl, _⟩ := List.getElem?_eq_some_iff.mp h
  have hm : l < m.length := by rw [S.len]; exact hl
  exact ⟨m[l], List.getElem?_eq_getElem hm, S.ob l _ o (List.getElem?_eq_getElem hm) h⟩
theorem Sim.obj (S : Sim g m L H) {l : Nat} {a : Addr} (h : m[l]? = some a) : ∃ o, L[l]? = some o ∧ RelO g m H a o := by
  obtain ⟨hl, _⟩ := List.getElem?_eq_some_iff.mp h
  have hm : l < L.length := by rw [← S.len]; exact hl
  exact ⟨L[l], List.getElem?_eq_getElem hm, S.ob l a _ h (List.getElem?_eq_getElem hm)⟩
theorem Sim.mem (S : Sim g m L H) {a : Addr} (h : a ∈ m) : ∃ u, H a = some u := by
  obtain ⟨l, hl⟩ := List.getElem?_of_mem h
  obtain ⟨o, _, r⟩ := S.obj hl
  exact r.there
/-- what is tracked stays as it was, but for new objects -/
theorem Sim.same {H' : Hp} (S : Sim g m L H) (k : ∀ a u, H a = some u → H' a = some u) : Ext m H m H' ∧ Sim g m L H' := by
  have e : Ext m H m H' := Ext.same k
  exact ⟨e, S.len, S.nd, fun l a o h1 h2 => (S.ob l a o h1 h2).mono e.x0 (k a)⟩
/-- a new tracked object that is no object of the logical heap (a tuple) -/
theorem Sim.free {p : Addr} {u : HO} (S : Sim g m L H) (hp : H p = none) : Ext m H m (upd H p u) ∧ Sim g m L (upd H p u) :=
  S.same fun a v h => by rw [upd_ne (ne_of_none h hp)]; exact h
theorem Sim.notIn {p : Addr} (S : Sim g m L H) (hp : H p = none) : p ∉ m := fun h => by
  obtain ⟨u, hu⟩ := S.mem h
  rw [hp] at hu
  cases hu
/-- a tracked object is taken into the logical heap -/
theorem Sim.adopt {p : Addr} {o : O} (S : Sim g m L H) (hp : p ∉ m) (r : RelO g (m ++ [p]) H p o) : Sim g (m ++ [p]) (L ++ [o]) H := by
  have e : Ex0 m H (m ++ [p]) H := ⟨fun l a h => by
    obtain ⟨hl, _⟩ := List.getElem?_eq_some_iff.mp h
    rw [List.getElem?_append_left hl]
    exact h, fun _ _ h => h, fun _ _ _ h => h⟩
  refine ⟨by simp [S.len], ?_, fun l a o' h1 h2 => ?_⟩
  · refine List.nodup_append.mpr ⟨S.nd, by simp, fun a ha b hb z => ?_⟩
    simp at hb
    subst hb
    subst z
    exact hp ha
  · by_cases hl : l < m.length
    · rw [List.getElem?_append_left hl] at h1
      rw [List.getElem?_append_left (by rw [← S.len]; exact hl)] at h2
      exact (S.ob l a o' h1 h2).mono e fun _ h => h
    · have hl1 : l = m.length := by
        obtain ⟨q, _⟩ := List.getElem?_eq_some_iff.mp h1
        simp at q
        omega
      subst hl1
      rw [List.getElem?_append_right (Nat.le_refl _)] at h1
      rw [List.getElem?_append_right (by rw [S.len]; exact Nat.le_refl _), S.len] at h2
      simp at h1 h2
      subst h1 h2
      exact r
theorem Ext.adopt {m' : List Addr} {H' : Hp} {p : Addr} (e : Ext m H m' H') (hp : H p = none) : Ext m H (m' ++ [p]) H' := by
  obtain ⟨k, rfl, hk⟩ := e.pre
  refine ⟨⟨k ++ [p], by simp, fun a ha => ?_⟩, e.tups, e.frzs, e.out, e.keep⟩
  rcases List.mem_append.mp ha with h | h
  · exact hk a h
  · simp at h
    subst h
    exact hp
/-- a new object -/
theorem Sim.new {p : Addr} {u : HO} {o : O} (S : Sim g m L H) (hp : H p = none) (r : RelO g (m ++ [p]) (upd H p u) p o) : Ext m H (m ++ [p]) (upd H p u) ∧ Sim g (m ++ [p]) (L ++ [o]) (upd H p u) := by
  obtain ⟨e, S1⟩ := S.free (u := u) hp
  exact ⟨e.adopt hp, S1.adopt (S.notIn hp) r⟩
/-- an object that is tracked apart is written (a comprehension's list) -/
theorem Ext.apart {m' : List Addr} {H' : Hp} {p : Addr} {u : HO} (e : Ext m H m' H') (hp : H p = none) : Ext m H m' (upd H' p u) := by
  have ne : ∀ a v, H a = some v → a ≠ p := fun a v h => ne_of_none h hp
  refine ⟨e.pre, fun a xs h => by rw [upd_ne (ne a _ h)]; exact e.tups a xs h, fun a o v h => by rw [upd_ne (ne a _ h)]; exact e.frzs a o v h, fun a v h n nt => by rw [upd_ne (ne a _ h)]; exact e.out a v h n nt, fun a h => ?_⟩
  by_cases ha : a = p
  · subst ha
    exact hp
  · rw [upd_ne ha] at h
    exact e.keep a h
theorem Sim.apart {p : Addr} {xs ys : List V} (S : Sim g m L H) (hp : p ∉ m) (hl : H p = some (.lst xs)) : Sim g m L (upd H p (.lst ys)) ∧ Ex0 m H m (upd H p (.lst ys)) := by
  have e : Ex0 m H m (upd H p (.lst ys)) := ⟨fun _ _ h => h, fun a zs h => by rw [upd_ne (fun z => by rw [z, hl] at h; cases h)]; exact h, fun a o u h => by rw [upd_ne (fun z => by rw [z, hl] at h; cases h)]; exact h⟩
  exact ⟨⟨S.len, S.nd, fun l a o h1 h2 => (S.ob l a o h1 h2).mono e fun u h => by rw [upd_ne (show a ≠ p from fun z => hp (by rw [← z]; exact List.mem_of_getElem? h1))]; exact h⟩, e⟩
/-- an object is written -/
theorem Sim.put {l : Nat} {a : Addr} {o o' : O} {u : HO} (S : Sim g m L H) (hl : m[l]? = some a) (ho : L[l]? = some o) (hm : o.mut = true) (r : Ext m H m (upd H a u) → RelO g m (upd H a u) a o') :
    Ext m H m (upd H a u) ∧ Sim g m (L.set l o') (upd H a u) := by
  have ra := S.ob l a o hl ho
  obtain ⟨n1, n2⟩ := ra.noTup hm
  have am : a ∈ m := List.mem_of_getElem? hl
  have e : Ext m H m (upd H a u) := by
    refine ⟨⟨[], by simp, by simp⟩, fun b xs h => by rw [upd_ne (fun z => n1 xs (by rw [← z]; exact h))]; exact h, fun b ob v h => by rw [upd_ne (fun z => n2 ob v (by rw [← z]; exact h))]; exact h, fun b v h n _ => by rw [upd_ne (show b ≠ a from fun z => n (by rw [z]; exact am))]; exact h, fun b h => ?_⟩
    by_cases hb : b = a
    · subst hb
      rw [upd_same] at h
      cases h
    · rw [upd_ne hb] at h
      exact h
  refine ⟨e, ⟨by simp [S.len], S.nd, fun k b ob h1 h2 => ?_⟩⟩
  by_cases hk : k = l
  · subst hk
    rw [hl] at h1
    cases h1
    rw [List.getElem?_set_self (by obtain ⟨q, _⟩ := List.getElem?_eq_some_iff.mp ho; exact q)] at h2
    cases h2
    exact r e
  · rw [List.getElem?_set_ne (Ne.symm hk)] at h2
    have hb : b ≠ a := fun z => hk (by
      subst z
      obtain ⟨q1, e1⟩ := List.getElem?_eq_some_iff.mp h1
      obtain ⟨q2, e2⟩ := List.getElem?_eq_some_iff.mp hl
      exact (List.getElem_inj S.nd).mp (e1.trans e2.symm))
    exact (S.ob k b ob h1 h2).mono e.x0 fun v h => by rw [upd_ne hb]; exact h
end

theorem sqT {K : PySem.W.Frag} {H : Hp} {a : Addr} {xs : List V} (h : H a = some (.tup xs)) : SqT K H a xs := .inl (.inl h)
/-! ### frames -/
structure RelF (K : PySem.W.Frag) (m : List Addr) (H : Hp) (ρ : Fr) (σ : L2.St) : Prop where
  len : ρ.length = σ.length
  at_ : ∀ (i : Nat) (w : W), ρ[i]? = some (some w) → ∃ v, σ[i]? = some (some v) ∧ RelW K m H w v
theorem RelF.mono0 {K : PySem.W.Frag} {m m' : List Addr} {H H' : Hp} {ρ : Fr} {σ : L2.St} (e : Ex0 m H m' H') (r : RelF K m H ρ σ) : RelF K m' H' ρ σ :=
  ⟨r.len, fun i w h => let ⟨v, h1, h2⟩ := r.at_ i w h; ⟨v, h1, h2.mono0 e⟩⟩
theorem RelF.mono {K : PySem.W.Frag} {m m' : List Addr} {H H' : Hp} {ρ : Fr} {σ : L2.St} (e : Ext m H m' H') (r : RelF K m H ρ σ) : RelF K m' H' ρ σ :=
  ⟨r.len, fun i w h => let ⟨v, h1, h2⟩ := r.at_ i w h; ⟨v, h1, h2.mono e⟩⟩
theorem RelF.set {K : PySem.W.Frag} {m : List Addr} {H : Hp} {ρ : Fr} {σ : L2.St} (r : RelF K m H ρ σ) {i : Nat} {w : W} {v : V} (q : RelW K m H w v) : RelF K m H (ρ.set i (some w)) (σ.set i (some v)) := by
  refine ⟨by simp [r.len], fun j x h => ?_⟩
  by_cases hj : i = j
  · subst hj
    have hi : i < ρ.length := by
      by_cases hi : i < ρ.length
      · exact hi
      · rw [List.getElem?_eq_none (by simpa using hi)] at h; cases h
    rw [List.getElem?_set_self hi] at h
    cases h
    exact ⟨v, List.getElem?_set_self (by rw [← r.len]; exact hi), q⟩
  · rw [List.getElem?_set_ne hj] at h ⊢
    exact r.at_ j x h

/-! ### a run, and what it brings about -/
def run (g : G) (X : L2.St → W → Value → Option Addr → Hp → Prop) (σ : L2.St) {α β : Type} (R : List Addr → Hp → α → β → Prop) (c : M α) (m : List Addr) (H : Hp) (L : Hh) (Q : β → Hp → Prop) : Prop :=
  wp c L (fun a L' => ∀ m' H' b, Ext m H m' H' → Sim g m' L' H' → R m' H' a b → Q b H')
    fun e L' => ∀ m' H' cls d, Ext m H m' H' → Sim g m' L' H' → g.rx m' H' e cls d → X σ e cls d H'
section
variable {g : G} {X : L2.St → W → Value → Option Addr → Hp → Prop} {σ : L2.St} {α β γ δ : Type} {R : List Addr → Hp → α → β → Prop} {R' : List Addr → Hp → γ → δ → Prop} {m m1 : List Addr} {H H1 : Hp} {L : Hh} {Q : β → Hp → Prop}
theorem run.shift {c : M α} (e : Ext m H m1 H1) (h : run g X σ R c m H L Q) : run g X σ R c m1 H1 L Q :=
  wp_mono h (fun _ _ q m' H' b e' s r => q m' H' b (e.trans e') s r) fun _ _ q m' H' cls d e' s r => q m' H' cls d (e.trans e') s r
theorem run.imp {c : M α} {Q' : β → Hp → Prop} (h : run g X σ R c m H L Q) (k : ∀ b H', Q b H' → Q' b H') : run g X σ R c m H L Q' :=
  wp_mono h (fun _ _ q m' H' b e' s r => k _ _ (q m' H' b e' s r)) fun _ _ q => q
theorem run_bnd {c : M γ} {f : γ → M α} (h : run g X σ R (bnd c f) m H L Q) :
    run g X σ R' c m H L (fun d H1 => ∃ m1 L1 a, Ext m H m1 H1 ∧ Sim g m1 L1 H1 ∧ R' m1 H1 a d ∧ run g X σ R (f a) m1 H1 L1 Q) := by
  unfold run at h ⊢
  rw [wp_bnd] at h
  refine wp_mono h (fun a L1 q m1 H1 b e1 s1 r1 => ⟨m1, L1, a, e1, s1, r1, ?_⟩) fun _ _ q => q
  exact wp_mono q (fun _ _ q m' H' b e' s r => q m' H' b (e1.trans e') s r) fun _ _ q m' H' cls d e' s r => q m' H' cls d (e1.trans e') s r
theorem run_ret {a : α} {b : β} (h : run g X σ R (ret a) m H L Q) (s : Sim g m L H) (r : R m H a b) : Q b H := h m H b (Ext.refl m H) s r
theorem run_fail (h : run g X σ R (fail : M α) m H L Q) : False := h
theorem run_if {p : Prop} [Decidable p] {c c' : M α} (h : run g X σ R (if p then c else c') m H L Q) : (p ∧ run g X σ R c m H L Q) ∨ (¬ p ∧ run g X σ R c' m H L Q) := by
  by_cases hp : p
  · rw [if_pos hp] at h; exact .inl ⟨hp, h⟩
  · rw [if_neg hp] at h; exact .inr ⟨hp, h⟩
end
abbrev XW : Type := L2.St → W → Value → Option Addr → Hp → Prop
end Dx

set_option maxRecDepth 100000
set_option maxHeartbeats 2000000
/-! Dx3: the operations by values keep what the evaluator says. -/
namespace Dx
open PySem PySem.Spec PyProof.Rows L2

/-- the tables of a program -/
structure Tab where
  CN : List Str
  FN : List Str
  rx : List Addr → Hp → W → Value → Option Addr → Prop
abbrev Tab.g (T : Tab) (X : Cx) : G := ⟨X.prog, X.w, X.K, X.mg, X.base, T.CN, T.FN, T.rx⟩

abbrev RB : List Addr → Hp → Bool → Bool → Prop := fun _ _ a b => a = b
abbrev RU : List Addr → Hp → Unit → Unit → Prop := fun _ _ _ _ => True
/-- a two-place operation's reading -/
def rO2 (g : G) (Xw : XW) (f : W → W → M W) : R2 := fun x y H Q => ∃ σ m L a b, Sim g m L H ∧ RelW g.K m H a x ∧ RelW g.K m H b y ∧ run g Xw σ (RelW g.K) (f a b) m H L Q
def rO1 (g : G) (Xw : XW) (f : W → M W) : V → Hp → VK → Prop := fun x H Q => ∃ σ m L a, Sim g m L H ∧ RelW g.K m H a x ∧ run g Xw σ (RelW g.K) (f a) m H L Q
def rOs (g : G) (Xw : XW) (f : List W → M W) : List V → Hp → VK → Prop := fun xs H Q => ∃ σ m L as, Sim g m L H ∧ RelWs g.K m H as xs ∧ run g Xw σ (RelW g.K) (f as) m H L Q
def rMs (g : G) (Xw : XW) (f : W → List W → M W) : V → List V → Hp → VK → Prop := fun x xs H Q => ∃ σ m L a as, Sim g m L H ∧ RelW g.K m H a x ∧ RelWs g.K m H as xs ∧ run g Xw σ (RelW g.K) (f a as) m H L Q
def rOT (g : G) (Xw : XW) (f : W → M Bool) : V → Hp → (Bool → Hp → Prop) → Prop := fun x H Q => ∃ σ m L a, Sim g m L H ∧ RelW g.K m H a x ∧ run g Xw σ RB (f a) m H L Q

theorem str_app (x y : Txt) : (⟨x.toArray⟩ : Str) ++ ⟨y.toArray⟩ = ⟨(x ++ y).toArray⟩ := by
  show (⟨x.toArray ++ y.toArray⟩ : Str) = _
  simp
theorem str_len (x : Txt) : (⟨x.toArray⟩ : Str).length = x.length := by show x.toArray.size = _; simp
theorem lenOk_le {n : Nat} (h : lenOk n = true) : n ≤ sizeLine := of_decide_eq_true h

section
variable {T : Tab} {X : Cx} {Xw : XW} {g : G} {m : List Addr} {L : Hh} {H : Hp} {σ : L2.St}
/-- a list's object, by what the logical heap has there -/
theorem Sim.lst (S : Sim g m L H) {l : Nat} {p : Addr} {ws : List W} (h : m[l]? = some p) (e : L[l]? = some (.lst ws)) : ∃ xs, H p = some (.lst xs) ∧ RelWs g.K m H ws xs := S.ob l p _ h e
theorem Sim.seq (S : Sim g m L H) {l : Nat} {p : Addr} {ws : List W} (h : m[l]? = some p) (e : L[l]? = some (.lst ws) ∨ L[l]? = some (.ro ws)) : ∃ xs, SqL g.K H p xs ∧ RelWs g.K m H ws xs := by
  rcases e with e | e
  · obtain ⟨xs, h1, h2⟩ := S.ob l p _ h e
    exact ⟨xs, .inl (.inl h1), h2⟩
  · obtain ⟨o, xs, h1, h2⟩ := S.ob l p _ h e
    exact ⟨xs, .inl (.inr ⟨o, h1⟩), h2⟩
/-- a new list -/
theorem run_new {ws : List W} {xs : List V} {p : Addr} {Q : VK} (h : run g Xw σ (RelW g.K) (alloc (.lst ws)) m H L Q) (S : Sim g m L H) (r : RelWs g.K m H ws xs) (hp : H p = none) : Q (.ref p) (upd H p (.lst xs)) := by
  have e : Ext m H (m ++ [p]) (upd H p (.lst xs)) := (S.free hp).1.adopt hp
  obtain ⟨e1, S1⟩ := S.new (o := .lst ws) (u := .lst xs) hp ⟨xs, upd_same, r.mono e⟩
  refine h _ _ _ e1 S1 (.ref ?_)
  rw [← S.len]
  simp
/-- a new tuple -/
theorem run_tup {ws : List W} {xs : List V} {p : Addr} {Q : VK} (h : run g Xw σ (RelW g.K) (ret (.tup ws)) m H L Q) (S : Sim g m L H) (r : RelWs g.K m H ws xs) (hp : H p = none) : Q (.ref p) (upd H p (.tup xs)) := by
  obtain ⟨e1, S1⟩ := S.free (u := .tup xs) hp
  exact h _ _ _ e1 S1 (.tup upd_same (r.mono e1))
theorem run_val {w : W} {v : V} {Q : VK} (h : run g Xw σ (RelW g.K) (ret w) m H L Q) (S : Sim g m L H) (r : RelW g.K m H w v) : Q v H := run_ret h S r

theorem op_add_ok : OpR X (binaryOp .Add) (rO2 (T.g X) Xw (binop .add)) := by
  intro pins s σ H x y v u Q I rx ry h
  obtain ⟨σ', m, L, a, b, S, ra, rb, h⟩ := h
  cases a <;> cases b <;> try exact False.elim h
  · cases ra; cases rb
    exact op_add pins s σ H _ _ v u Q I rx ry ⟨_, _, rfl, rfl, run_val h S (.int _)⟩
  · cases ra; cases rb
    rcases run_if h with ⟨c, h⟩ | ⟨_, h⟩
    · refine op_add_str pins s σ H _ _ v u Q I rx ry ⟨_, _, rfl, rfl, ?_, ?_⟩
      · rw [str_len, str_len]; exact lenOk_le c
      · rw [str_app]; exact run_val h S (.str _)
    · exact h.elim
  · cases ra with
    | tup ha ra =>
      cases rb with
      | tup hb rb =>
        rcases run_if h with ⟨c, h⟩ | ⟨_, h⟩
        · have hz := lenOk_le c
          rw [ra.length, rb.length] at hz
          refine op_catA pins s σ H _ _ v u Q I rx ry ⟨_, _, _, _, rfl, rfl, sqT ha, sqT hb, hz, fun e => ?_, fun _ e => ?_, fun _ _ p hp => ?_⟩
          · refine run_val h S (.tup hb ?_)
            subst e
            cases ra
            exact rb
          · refine run_val h S (.tup ha ?_)
            subst e
            cases rb
            rw [List.append_nil]
            exact ra
          · exact run_tup h S (ra.append rb) hp
        · exact h.elim
  · rename_i l1 l2
    cases ra with
    | ref ha =>
      cases rb with
      | ref hb =>
        have h : run (T.g X) Xw σ' (RelW X.K) (match L[l1]?, L[l2]? with
          | some (.lst x), some (.lst y) => if lenOk (x.length + y.length) then alloc (.lst (x ++ y)) else fail
          | _, _ => fail) m H L Q := h
        split at h
        · rename_i x y e1 e2
          rcases run_if h with ⟨c, h⟩ | ⟨_, h⟩
          · obtain ⟨xs, h1, r1⟩ := S.lst ha e1
            obtain ⟨ys, h2, r2⟩ := S.lst hb e2
            have hz := lenOk_le c
            rw [r1.length, r2.length] at hz
            exact op_cat pins s σ H _ _ v u Q I rx ry ⟨_, _, _, _, rfl, rfl, h1, h2, hz, fun p hp => run_new h S (r1.append r2) hp⟩
          · exact h.elim
        · exact h.elim
theorem op_sub_ok : OpR X (binaryOp .Sub) (rO2 (T.g X) Xw (binop .sub)) := by
  intro pins s σ H x y v u Q I rx ry h
  obtain ⟨σ', m, L, a, b, S, ra, rb, h⟩ := h
  cases a <;> cases b <;> try exact False.elim h
  cases ra; cases rb
  exact op_sub pins s σ H _ _ v u Q I rx ry ⟨_, _, rfl, rfl, run_val h S (.int _)⟩
theorem op_mul_ok : OpR X (binaryOp .Mult) (rO2 (T.g X) Xw (binop .mul)) := by
  intro pins s σ H x y v u Q I rx ry h
  obtain ⟨σ', m, L, a, b, S, ra, rb, h⟩ := h
  cases a <;> cases b <;> try exact False.elim h
  cases ra; cases rb
  rcases run_if h with ⟨c, h⟩ | ⟨_, h⟩
  · refine op_mul pins s σ H _ _ v u Q I rx ry ⟨_, _, rfl, rfl, ?_, run_val h S (.int _)⟩
    simp only [Bool.or_eq_true, smallI, Bool.and_eq_true, decide_eq_true_eq] at c
    exact c
  · exact h.elim
theorem op_fdiv_ok : OpR X (binaryOp .FloorDiv) (rO2 (T.g X) Xw (binop .fdiv)) := by
  intro pins s σ H x y v u Q I rx ry h
  obtain ⟨σ', m, L, a, b, S, ra, rb, h⟩ := h
  cases a <;> cases b <;> try exact False.elim h
  cases ra; cases rb
  rcases run_if h with ⟨c, h⟩ | ⟨_, h⟩
  · refine op_fdiv pins s σ H _ _ v u Q I rx ry ⟨_, _, rfl, rfl, ?_, run_val h S (.int _)⟩
    simp only [Bool.and_eq_true, decide_eq_true_eq] at c
    exact c
  · exact h.elim
theorem op_mod_ok : OpR X (binaryOp .Mod) (rO2 (T.g X) Xw (binop .mod)) := by
  intro pins s σ H x y v u Q I rx ry h
  obtain ⟨σ', m, L, a, b, S, ra, rb, h⟩ := h
  cases a <;> cases b <;> try exact False.elim h
  cases ra; cases rb
  rcases run_if h with ⟨c, h⟩ | ⟨_, h⟩
  · exact op_mod pins s σ H _ _ v u Q I rx ry ⟨_, _, rfl, rfl, of_decide_eq_true c, run_val h S (.int _)⟩
  · exact h.elim
theorem op_pow_ok : OpR X (binaryOp .Pow) (rO2 (T.g X) Xw (binop .pow)) := by
  intro pins s σ H x y v u Q I rx ry h
  obtain ⟨σ', m, L, a, b, S, ra, rb, h⟩ := h
  cases a <;> cases b <;> try exact False.elim h
  cases ra; cases rb
  rcases run_if h with ⟨c, h⟩ | ⟨_, h⟩
  · refine op_pow pins s σ H _ _ v u Q I rx ry ⟨_, _, rfl, rfl, ?_, run_val h S (.int _)⟩
    simp only [Bool.and_eq_true, decide_eq_true_eq] at c
    exact ⟨c.1.1, c.1.2, c.2⟩
  · exact h.elim
def bopP : BOp → Operator
  | .add => .Add | .sub => .Sub | .mul => .Mult | .fdiv => .FloorDiv | .mod => .Mod | .pow => .Pow
theorem op_bin_ok (op : BOp) : OpR X (binaryOp (bopP op)) (rO2 (T.g X) Xw (binop op)) := by
  cases op
  · exact op_add_ok
  · exact op_sub_ok
  · exact op_mul_ok
  · exact op_fdiv_ok
  · exact op_mod_ok
  · exact op_pow_ok
end
end Dx

set_option maxRecDepth 100000
set_option maxHeartbeats 2000000
/-! Dx4: comparisons, truth, items, slices. -/
namespace Dx
open PySem PySem.Spec PyProof.Rows L2
section
variable {T : Tab} {X : Cx} {Xw : XW} {g : G} {m : List Addr} {L : Hh} {H : Hp} {σ : L2.St}
/-! ### data -/
theorem mapM_some {α β : Type} {f : α → Option β} : ∀ {xs : List α} {ys : List β}, xs.mapM f = some ys → Paired (fun x y => f x = some y) xs ys
  | [], ys, h => by
    simp at h
    subst h
    exact .nil
  | x :: xs, ys, h => by
    rw [List.mapM_cons] at h
    cases e : f x with
    | none => rw [e] at h; simp at h
    | some y =>
      rw [e] at h
      simp only [Option.bind_eq_bind, Option.bind_some] at h
      cases e2 : xs.mapM f with
      | none => rw [e2] at h; simp at h
      | some zs =>
        rw [e2] at h
        simp at h
        subst h
        exact .cons e (mapM_some e2)
theorem dpAll_of {f : W → Option PyData} (ih : ∀ w v d, RelW g.K m H w v → f w = some d → Dp g.K H v d) : ∀ {ws : List W} {xs : List V} {ds : List PyData}, RelWs g.K m H ws xs → Paired (fun x y => f x = some y) ws ds → DpAll g.K H xs ds
  | _, _, _, .nil, .nil => .nil
  | _, _, _, .cons a b, .cons p q => .cons (ih _ _ _ a p) (dpAll_of ih b q)
theorem asData_ok (S : Sim g m L H) : ∀ (n : Nat) (w : W) (v : V) (d : PyData), RelW g.K m H w v → asData L n w = some d → Dp g.K H v d
  | n, .non, _, d, r, h => by cases r; simp [asData] at h; subst h; exact .non
  | n, .bl b, _, d, r, h => by cases r; simp [asData] at h; subst h; exact .bl b
  | n, .int i, _, d, r, h => by cases r; simp [asData] at h; subst h; exact .int i
  | n, .str x, _, d, r, h => by cases r; simp [asData] at h; subst h; exact .str _
  | 0, .tup ws, _, d, r, h => by simp [asData] at h
  | 0, .ref l, _, d, r, h => by simp [asData] at h
  | n, .exn c fs, _, d, r, h => by cases r
  | n, .clo k cs, _, d, r, h => by cases r
  | n, .scr ws, _, d, r, h => by simp [asData] at h
  | n + 1, .tup ws, _, d, r, h => by
    cases r with
    | tup hs hr =>
      simp only [asData, Option.map_eq_some_iff] at h
      obtain ⟨ds, e, rfl⟩ := h
      exact .tup (sqT hs) (dpAll_of (asData_ok S n) hr (mapM_some e))
  | n + 1, .ref l, _, d, r, h => by
    cases r with
    | @ref _ a hl =>
      have h : (match L[l]? with
        | some (.lst ws) => (ws.mapM (asData L n)).map PyData.list
        | some (.ro ws) => (ws.mapM (asData L n)).map PyData.list
        | _ => none) = some d := h
      split at h
      · rename_i ws e
        simp only [Option.map_eq_some_iff] at h
        obtain ⟨ds, e2, rfl⟩ := h
        obtain ⟨xs, hs, hr⟩ := S.seq hl (.inl e)
        exact .lst hs (dpAll_of (asData_ok S n) hr (mapM_some e2))
      · rename_i ws e
        simp only [Option.map_eq_some_iff] at h
        obtain ⟨ds, e2, rfl⟩ := h
        obtain ⟨xs, hs, hr⟩ := S.seq hl (.inr e)
        exact .lst hs (dpAll_of (asData_ok S n) hr (mapM_some e2))
      · cases h
theorem run_eq {x y : W} {f : Bool → W} {Q : VK} (h : run g Xw σ (RelW g.K) (bnd (eqop x y) fun b => ret (f b)) m H L Q) (S : Sim g m L H) {vx vy : V} (rx : RelW g.K m H x vx) (ry : RelW g.K m H y vy) :
    ∃ d e, Dp g.K H vx d ∧ Dp g.K H vy e ∧ SeqAt.shaped d = true ∧ SeqAt.shaped e = true ∧ run g Xw σ (RelW g.K) (ret (f (PyData.eqv d e))) m H L Q := by
  have h : run g Xw σ (RelW g.K) (bnd (match asData L 64 x, asData L 64 y with
    | some d, some e => if SeqAt.shaped d && SeqAt.shaped e then ret (PyData.eqv d e) else fail
    | _, _ => fail) fun b => ret (f b)) m H L Q := h
  split at h
  · rename_i d e e1 e2
    have h2 := run_bnd (R' := RB) h
    rcases run_if h2 with ⟨c, h3⟩ | ⟨_, h3⟩
    · simp only [Bool.and_eq_true] at c
      refine ⟨d, e, asData_ok S _ _ _ _ rx e1, asData_ok S _ _ _ _ ry e2, c.1, c.2, ?_⟩
      rw [if_pos (by simp [c.1, c.2])] at h
      unfold run at h ⊢
      rw [wp_bnd] at h
      exact h
    · exact h3.elim
  · exact (run_bnd (R' := RB) h).elim
theorem hu64 {d : Nat} {A : Around} (r : Room d A) : A.units + 65 < cLine := by have := r.un; omega
def copP : COp → CmpOp
  | .eq => .Eq | .ne => .NotEq | .lt => .Lt | .le => .LtE | .gt => .Gt | .ge => .GtE | .is => .Is | .isn => .IsNot | .inn => .In | .nin => .NotIn
theorem isNone_ok {K : PySem.W.Frag} {w : W} {v : V} (r : RelW K m H w v) : decide (v = .non) = isNone w := by
  cases r <;> simp [isNone]
/-! ### keys, dicts -/
theorem valV_find {κ : Type} [DecidableEq κ] (f : κ → Ky) (hf : ∀ a b, f a = f b → a = b) {K : PySem.W.Frag} : ∀ {kvs : List (Ky × W)} {qs : List (κ × V)}, kvs.map (·.1) = qs.map (fun q => f q.1) → RelWs K m H (kvs.map (·.2)) (qs.map (·.2)) → ∀ k : κ,
    (dGet kvs (f k) = none ∧ valV qs k = none) ∨ ∃ w v, dGet kvs (f k) = some w ∧ valV qs k = some v ∧ RelW K m H w v
  | [], [], _, _, k => .inl ⟨rfl, rfl⟩
  | [], _ :: _, e, _, _ => by simp at e
  | _ :: _, [], e, _, _ => by simp at e
  | (k1, w1) :: kvs, (k2, v2) :: qs, e, r, k => by
    simp only [List.map_cons, List.cons.injEq] at e
    obtain ⟨e1, e2⟩ := e
    cases r with
    | cons r1 r2 =>
      by_cases h : k2 = k
      · right
        refine ⟨w1, v2, ?_, valV_pos h, r1⟩
        have h2 : k1 = f k := by rw [e1, h]
        simp [dGet, List.find?_cons, h2]
      · have h2 : k1 ≠ f k := fun z => h (hf _ _ (e1.symm.trans z))
        have e3 : dGet ((k1, w1) :: kvs) (f k) = dGet kvs (f k) := by simp [dGet, List.find?_cons, h2]
        rw [e3, valV_neg (p := (k2, v2)) h]
        exact valV_find f hf e2 r2 k
theorem put_find {κ : Type} [DecidableEq κ] (f : κ → Ky) (hf : ∀ a b, f a = f b → a = b) {K : PySem.W.Frag} {kvs : List (Ky × W)} {qs : List (κ × V)} (e : kvs.map (·.1) = qs.map (fun q => f q.1)) (r : RelWs K m H (kvs.map (·.2)) (qs.map (·.2))) {w : W} {v : V} (rw' : RelW K m H w v) (k : κ) :
    (dPut kvs (f k) w).map (·.1) = (putK qs k v).map (fun q => f q.1) ∧ RelWs K m H ((dPut kvs (f k) w).map (·.2)) ((putK qs k v).map (·.2)) := by
  have key : ∀ {kvs : List (Ky × W)} {qs : List (κ × V)}, kvs.map (·.1) = qs.map (fun q => f q.1) → (kvs.any fun p => decide (p.1 = f k)) = qs.any fun q => decide (q.1 = k) := by
    intro kvs
    induction kvs with
    | nil => intro qs e; cases qs with
      | nil => rfl
      | cons q qs => simp at e
    | cons p kvs ih =>
      intro qs e
      cases qs with
      | nil => simp at e
      | cons q qs =>
        simp only [List.map_cons, List.cons.injEq] at e
        rw [List.any_cons, List.any_cons, ih e.2]
        have : decide (p.1 = f k) = decide (q.1 = k) := by
          rw [e.1]
          by_cases h : q.1 = k
          · simp [h]
          · have h2 : f q.1 ≠ f k := fun z => h (hf _ _ z)
            simp [h, h2]
        rw [this]
  have mp : ∀ {kvs : List (Ky × W)} {qs : List (κ × V)}, kvs.map (·.1) = qs.map (fun q => f q.1) → RelWs K m H (kvs.map (·.2)) (qs.map (·.2)) →
      (kvs.map fun p => if p.1 = f k then (p.1, w) else p).map (·.1) = (qs.map fun q => if q.1 = k then (q.1, v) else q).map (fun q => f q.1) ∧ RelWs K m H ((kvs.map fun p => if p.1 = f k then (p.1, w) else p).map (·.2)) ((qs.map fun q => if q.1 = k then (q.1, v) else q).map (·.2)) := by
    intro kvs
    induction kvs with
    | nil => intro qs e r; cases qs with
      | nil => exact ⟨rfl, r⟩
      | cons q qs => simp at e
    | cons p kvs ih =>
      intro qs e r
      cases qs with
      | nil => simp at e
      | cons q qs =>
        simp only [List.map_cons, List.cons.injEq] at e
        cases r with
        | cons r1 r2 =>
          obtain ⟨i1, i2⟩ := ih e.2 r2
          simp only [List.map_cons]
          by_cases h : q.1 = k
          · have h2 : p.1 = f k := by rw [e.1, h]
            rw [if_pos h, if_pos h2]
            exact ⟨by rw [i1, e.1], .cons rw' i2⟩
          · have h2 : p.1 ≠ f k := fun z => h (hf _ _ (e.1.symm.trans z))
            rw [if_neg h, if_neg h2]
            exact ⟨by rw [i1, e.1], .cons r1 i2⟩
  unfold dPut putK
  rw [key e]
  split
  · exact mp e r
  · constructor
    · rw [List.map_append, List.map_append, e]; rfl
    · rw [List.map_append, List.map_append]; exact r.append (.one rw')
theorem kyK_inj (a b : Key) (h : kyK a = kyK b) : a = b := by
  cases a <;> cases b <;> simp [kyK] at h
  · rw [h]
  · rename_i x y
    obtain ⟨⟨x⟩⟩ := x
    obtain ⟨⟨y⟩⟩ := y
    simp at h
    rw [h]
theorem kS_inj (a b : Key) (h : kS a = kS b) : a = b := by
  cases a <;> cases b <;> simp [kS] at h
  · rw [h]
  · rename_i x y
    obtain ⟨⟨x⟩⟩ := x
    obtain ⟨⟨y⟩⟩ := y
    simp at h
    rw [h]
theorem kyT_inj (a b : List Key) (h : kyT a = kyT b) : a = b := by
  unfold kyT at h
  injection h with h
  exact List.map_inj_right (fun _ _ => kS_inj _ _) |>.mp h
theorem keyAts_ok {K : PySem.W.Frag} : ∀ {ws : List W} {xs : List V} {ks : List (Int ⊕ Txt)}, RelWs K m H ws xs → ws.mapM keyAt = some ks → ∃ qs : List Key, xs = qs.map kV ∧ ks = qs.map kS
  | [], _, ks, .nil, h => ⟨[], rfl, by simpa using h.symm⟩
  | w :: ws, _, ks, .cons r rs, h => by
    rw [List.mapM_cons] at h
    cases e : keyAt w with
    | none => rw [e] at h; simp at h
    | some k0 =>
      cases e2 : ws.mapM keyAt with
      | none => rw [e, e2] at h; simp at h
      | some ks0 =>
        rw [e, e2] at h
        simp at h
        subst h
        obtain ⟨qs, h1, h2⟩ := keyAts_ok rs e2
        subst h1 h2
        cases w <;> simp [keyAt] at e
        · subst e
          cases r
          exact ⟨.inl _ :: qs, rfl, rfl⟩
        · subst e
          cases r
          exact ⟨.inr _ :: qs, rfl, rfl⟩
theorem keyK_ok {K : PySem.W.Frag} {w : W} {y : V} {k : Ky} (r : RelW K m H w y) (h : keyFit false w = some k) : ∃ q : Key, y = kV q ∧ k = kyK q := by
  unfold keyFit at h
  cases w <;> simp [keyOf] at h
  · obtain ⟨h1, h2⟩ := h; subst h2; cases r; exact ⟨.inl _, rfl, rfl⟩
  · obtain ⟨h1, h2⟩ := h; subst h2; cases r; exact ⟨.inr _, rfl, rfl⟩
  · rename_i ws
    cases e : ws.mapM keyAt with
    | none => rw [e] at h; simp at h
    | some ks => rw [e] at h; simp [Ky.isT] at h
theorem keyT_ok {K : PySem.W.Frag} {w : W} {y : V} {k : Ky} (r : RelW K m H w y) (h : keyFit true w = some k) : ∃ (q : List Key) (b : Addr), y = .ref b ∧ H b = some (.tup (q.map kV)) ∧ k = kyT q := by
  unfold keyFit at h
  cases w <;> simp [keyOf] at h
  · simp [Ky.isT] at h
  · simp [Ky.isT] at h
  · rename_i ws
    cases e : ws.mapM keyAt with
    | none => rw [e] at h; simp at h
    | some ks =>
      rw [e] at h
      simp at h
      obtain ⟨h1, h2⟩ := h
      subst h2
      cases r with
      | tup h hr =>
        obtain ⟨qs, e1, e2⟩ := keyAts_ok hr e
        subst e1 e2
        exact ⟨qs, _, rfl, h, rfl⟩
/-- what stands at a key -/
theorem dget_ok (S : Sim g m L H) {l : Nat} {a : Addr} (hl : m[l]? = some a) {tt : Bool} {kvs : List (Ky × W)} (e : L[l]? = some (.dct tt kvs)) {w : W} {y : V} (r : RelW g.K m H w y) {k : Ky} (hk : keyFit tt w = some k) :
    (dGet kvs k = none ∧ DGet H a y none) ∨ ∃ z v, dGet kvs k = some z ∧ DGet H a y (some v) ∧ RelW g.K m H z v := by
  cases tt with
  | false =>
    obtain ⟨qs, h1, h2, h3⟩ := S.ob l a _ hl e
    obtain ⟨q, rfl, rfl⟩ := keyK_ok r hk
    rcases valV_find kyK kyK_inj h2 h3 q with ⟨a1, a2⟩ | ⟨z, v, a1, a2, a3⟩
    · exact .inl ⟨a1, a2 ▸ DGet.k h1⟩
    · exact .inr ⟨z, v, a1, a2 ▸ DGet.k h1, a3⟩
  | true =>
    obtain ⟨qs, h1, h2, h3⟩ := S.ob l a _ hl e
    obtain ⟨q, b, rfl, hb, rfl⟩ := keyT_ok r hk
    rcases valV_find kyT kyT_inj h2 h3 q with ⟨a1, a2⟩ | ⟨z, v, a1, a2, a3⟩
    · exact .inl ⟨a1, a2 ▸ DGet.t h1 hb⟩
    · exact .inr ⟨z, v, a1, a2 ▸ DGet.t h1 hb, a3⟩
theorem isD_ok (S : Sim g m L H) {l : Nat} {a : Addr} (hl : m[l]? = some a) {tt : Bool} {kvs : List (Ky × W)} (e : L[l]? = some (.dct tt kvs)) : IsD H a := by
  cases tt with
  | false => obtain ⟨qs, h1, _⟩ := S.ob l a _ hl e; exact .inl ⟨qs, .inl h1⟩
  | true => obtain ⟨qs, h1, _⟩ := S.ob l a _ hl e; exact .inr ⟨qs, .inl h1⟩
/-- d[y], by values -/
theorem ix_dct (hu : X.A.units + 1 < cLine) : IxR X (fun x y H Q => ∃ a v, x = .ref a ∧ DGet H a y (some v) ∧ Q v H) := by
  intro value slice pins s σ H x y v u Q I rx ry h hs
  obtain ⟨a, z, rfl, gd, q⟩ := h
  obtain rfl : v = Value.ref a := rx
  exact tail_any (dict_typeIs I gd) PySem.F.slot_dict_getitem.lookup (d_getItem hu I gd ry fun w' s3 I3 rw' => ⟨z, H, I3, rw', q⟩) hs
/-! ### membership -/
theorem flat_ok {K : PySem.W.Frag} {w : W} {v : V} (r : RelW K m H w v) (h : flatW w = true) : flatV v = true := by
  cases w <;> simp [flatW] at h <;> cases r <;> rfl
theorem flats_ok {K : PySem.W.Frag} : ∀ {ws : List W} {vs : List V}, RelWs K m H ws vs → ws.all flatW = true → vs.all flatV = true
  | [], _, .nil, _ => rfl
  | w :: ws, _, .cons a b, h => by
    rw [List.all_cons, Bool.and_eq_true] at h
    rw [List.all_cons, flat_ok a h.1, flats_ok b h.2]
    rfl
theorem eqW_ok {K : PySem.W.Frag} {w z : W} {v y : V} (r : RelW K m H w v) (q : RelW K m H z y) (h : flatW w = true) (h2 : flatW z = true) : eqV v y = eqW w z := by
  cases w <;> simp [flatW] at h <;> cases z <;> simp [flatW] at h2 <;> cases r <;> cases q <;> first | rfl | skip
  rename_i x y
  show ((⟨x.toArray⟩ : Str) == ⟨y.toArray⟩) = (x == y)
  exact SX.S_beq x y
theorem inV_ok {K : PySem.W.Frag} {x : W} {v : V} (r : RelW K m H x v) (hx : flatW x = true) : ∀ {ws : List W} {vs : List V}, RelWs K m H ws vs → ws.all flatW = true → inV v vs = ws.any fun y => eqW y x
  | [], _, .nil, _ => rfl
  | w :: ws, _, .cons a b, h => by
    rw [List.all_cons, Bool.and_eq_true] at h
    show (eqV _ v || inV v _) = _
    rw [List.any_cons, eqW_ok a r h.1 hx, inV_ok r hx b h.2]
theorem run_in {f : Bool → Bool} {x y : W} {Q : VK} (h : run g Xw σ (RelW g.K) (inM f x y) m H L Q) (S : Sim g m L H) {vx vy : V} (rx : RelW g.K m H x vx) (ry : RelW g.K m H y vy) :
    (∃ p xs b, vy = .ref p ∧ SqT g.K H p xs ∧ flatV vx = true ∧ xs.all flatV = true ∧ inV vx xs = b ∧ Q (.bl (f b)) H) ∨
    (∃ d ds, Dp g.K H vx d ∧ Dp g.K H vy (.list ds) ∧ SeqAt.shaped d = true ∧ SeqAt.shaped (.list ds) = true ∧ Q (.bl (f (ds.any fun z => PyData.eqv z d))) H) ∨
    ∃ a o, vy = .ref a ∧ DGet H a vx o ∧ Q (.bl (f o.isSome)) H := by
  have h : run g Xw σ (RelW g.K) (match inW L x y with
    | some b => ret (.bl (f b))
    | none => fail) m H L Q := h
  cases e : inW L x y with
  | none => rw [e] at h; exact h.elim
  | some b =>
    rw [e] at h
    have fin : Q (.bl (f b)) H := run_val h S (.bl _)
    unfold inW at e
    split at e
    · split at e
      · rename_i ws c
        simp only [Bool.and_eq_true] at c
        cases ry with
        | tup hs hr =>
          cases e
          exact .inl ⟨_, _, _, rfl, sqT hs, flat_ok rx c.1, flats_ok hr c.2, inV_ok rx c.1 hr c.2, fin⟩
      · cases e
    · rename_i l
      split at e
      · rename_i ws ew
        split at e
        · rename_i d ds e1 e2
          split at e
          · rename_i c
            simp only [Bool.and_eq_true] at c
            cases e
            exact .inr (.inl ⟨d, ds, asData_ok S _ _ _ _ rx e1, asData_ok S _ _ _ _ ry e2, c.1, c.2, fin⟩)
          · cases e
        · cases e
      · rename_i tt kvs ew
        split at e
        · rename_i k ek
          cases e
          cases ry with
          | ref hl =>
            rcases dget_ok S hl ew rx ek with ⟨a1, a2⟩ | ⟨z, v, a1, a2, a3⟩
            · rw [a1] at fin; exact .inr (.inr ⟨_, _, rfl, a2, fin⟩)
            · rw [a1] at fin; exact .inr (.inr ⟨_, _, rfl, a2, fin⟩)
        · cases e
      · cases e
    · cases e
theorem inn_T {a : W} {ws : List W} : cmpop .inn a (.tup ws) = inM id a (.tup ws) := by
  cases a <;> first | rfl | (rename_i z; rcases z with _ | ⟨c, _ | ⟨c2, z⟩⟩ <;> rfl)
theorem inn_R {a : W} {l : Nat} : cmpop .inn a (.ref l) = inM id a (.ref l) := by
  cases a <;> first | rfl | (rename_i z; rcases z with _ | ⟨c, _ | ⟨c2, z⟩⟩ <;> rfl)
theorem nin_T {a : W} {ws : List W} : cmpop .nin a (.tup ws) = inM not a (.tup ws) := by
  cases a <;> first | rfl | (rename_i z; rcases z with _ | ⟨c, _ | ⟨c2, z⟩⟩ <;> rfl)
theorem nin_R {a : W} {l : Nat} : cmpop .nin a (.ref l) = inM not a (.ref l) := by
  cases a <;> first | rfl | (rename_i z; rcases z with _ | ⟨c, _ | ⟨c2, z⟩⟩ <;> rfl)
theorem op_in_all (hu : X.A.units + 65 < cLine) : OpR X (compareOp .In) (fun x y H Q => (∃ p xs b, y = .ref p ∧ SqT X.K H p xs ∧ flatV x = true ∧ xs.all flatV = true ∧ inV x xs = b ∧ Q (.bl b) H) ∨
    (∃ d ds, Dp X.K H x d ∧ Dp X.K H y (.list ds) ∧ SeqAt.shaped d = true ∧ SeqAt.shaped (.list ds) = true ∧ Q (.bl (ds.any fun z => PyData.eqv z d)) H) ∨ ∃ a o, y = .ref a ∧ DGet H a x o ∧ Q (.bl o.isSome) H) := by
  intro pins s σ H x y v u Q I rx ry h
  rcases h with ⟨p, xs, b, e, h1, h2, h3, h4, q⟩ | ⟨d, ds, h1, h2, h3, h4, q⟩ | ⟨a, o, e, h1, q⟩
  · exact op_in_seq pins s σ H x y v u Q I rx ry ⟨p, xs, e, .inr h1, h2, h3, by rw [h4]; exact q⟩
  · exact op_inD hu pins s σ H x y v u Q I rx ry ⟨d, ds, h1, h2, h3, h4, q⟩
  · subst e
    obtain rfl : u = Value.ref a := ry
    exact d_in (by omega) I h1 rx fun s3 I3 => ⟨.bl o.isSome, H, I3, rfl, q⟩
theorem op_notIn_all (hu : X.A.units + 65 < cLine) : OpR X (compareOp .NotIn) (fun x y H Q => (∃ p xs b, y = .ref p ∧ SqT X.K H p xs ∧ flatV x = true ∧ xs.all flatV = true ∧ inV x xs = b ∧ Q (.bl (!b)) H) ∨
    (∃ d ds, Dp X.K H x d ∧ Dp X.K H y (.list ds) ∧ SeqAt.shaped d = true ∧ SeqAt.shaped (.list ds) = true ∧ Q (.bl (!(ds.any fun z => PyData.eqv z d))) H) ∨ ∃ a o, y = .ref a ∧ DGet H a x o ∧ Q (.bl (!o.isSome)) H) := by
  intro pins s σ H x y v u Q I rx ry h
  rcases h with ⟨p, xs, b, e, h1, h2, h3, h4, q⟩ | ⟨d, ds, h1, h2, h3, h4, q⟩ | ⟨a, o, e, h1, q⟩
  · exact op_notIn_seq pins s σ H x y v u Q I rx ry ⟨p, xs, e, .inr h1, h2, h3, by rw [h4]; exact q⟩
  · exact op_notInD hu pins s σ H x y v u Q I rx ry ⟨d, ds, h1, h2, h3, h4, q⟩
  · subst e
    obtain rfl : u = Value.ref a := ry
    exact d_notIn (by omega) I h1 rx fun s3 I3 => ⟨.bl (!o.isSome), H, I3, rfl, q⟩
theorem op_cmp_ok (hu : X.A.units + 65 < cLine) (op : COp) : OpR X (compareOp (copP op)) (rO2 (T.g X) Xw (cmpop op)) := by
  intro pins s σ H x y v u Q I rx ry h
  obtain ⟨σ', m, L, a, b, S, ra, rb, h⟩ := h
  cases op
  · obtain ⟨d, e, h1, h2, h3, h4, h5⟩ := run_eq (f := W.bl) h S ra rb
    exact op_eqD (by omega) pins s σ H _ _ v u Q I rx ry ⟨d, e, h1, h2, h3, h4, run_val h5 S (.bl _)⟩
  · obtain ⟨d, e, h1, h2, h3, h4, h5⟩ := run_eq (f := fun b => W.bl (!b)) h S ra rb
    exact op_neD (by omega) pins s σ H _ _ v u Q I rx ry ⟨d, e, h1, h2, h3, h4, run_val h5 S (.bl _)⟩
  · cases a <;> cases b <;> try exact False.elim h
    cases ra; cases rb
    exact op_lt pins s σ H _ _ v u Q I rx ry ⟨_, _, rfl, rfl, run_val h S (.bl _)⟩
  · cases a <;> cases b <;> try exact False.elim h
    cases ra; cases rb
    exact op_le pins s σ H _ _ v u Q I rx ry ⟨_, _, rfl, rfl, run_val h S (.bl _)⟩
  · cases a <;> cases b <;> try exact False.elim h
    cases ra; cases rb
    exact op_gt pins s σ H _ _ v u Q I rx ry ⟨_, _, rfl, rfl, run_val h S (.bl _)⟩
  · cases a <;> cases b <;> try exact False.elim h
    cases ra; cases rb
    exact op_ge pins s σ H _ _ v u Q I rx ry ⟨_, _, rfl, rfl, run_val h S (.bl _)⟩
  · cases b <;> try exact False.elim h
    cases rb
    have e := isNone_ok ra
    exact op_isN pins s σ H _ _ v u Q I rx ry ⟨rfl, by rw [e]; exact run_val h S (.bl _)⟩
  · cases b <;> try exact False.elim h
    cases rb
    have e := isNone_ok ra
    exact op_notN pins s σ H _ _ v u Q I rx ry ⟨rfl, by rw [e]; exact run_val h S (.bl _)⟩
  · have key : ∀ w z, run (T.g X) Xw σ' (RelW X.K) (inM id w z) m H L Q → RelW X.K m H w x → RelW X.K m H z y → wpAny (model X.prog X.w) X.A (compareOp .In v u) (EP X pins σ Q) X.xe s := fun w z h ra rb =>
      op_in_all hu pins s σ H _ _ v u Q I rx ry (by
        rcases run_in h S ra rb with ⟨p, xs, b, h1⟩ | ⟨d, ds, h1⟩ | h1
        · exact .inl ⟨p, xs, b, h1⟩
        · exact .inr (.inl ⟨d, ds, h1⟩)
        · exact .inr (.inr h1))
    cases b with
    | tup ws => exact key a _ (by rw [← inn_T]; exact h) ra rb
    | ref l => exact key a _ (by rw [← inn_R]; exact h) ra rb
    | str y =>
      cases a with
      | str z =>
        cases z with
        | nil => exact False.elim h
        | cons c z =>
          cases z with
          | cons c2 z => exact False.elim h
          | nil =>
            cases ra; cases rb
            exact op_in_sign pins s σ H _ _ v u Q I rx ry ⟨_, _, rfl, rfl, run_val h S (.bl _)⟩
      | _ => exact False.elim h
    | _ => cases a <;> first | exact False.elim h | (rename_i z; cases z with | nil => exact False.elim h | cons c z => cases z <;> exact False.elim h)
  · have key : ∀ w z, run (T.g X) Xw σ' (RelW X.K) (inM not w z) m H L Q → RelW X.K m H w x → RelW X.K m H z y → wpAny (model X.prog X.w) X.A (compareOp .NotIn v u) (EP X pins σ Q) X.xe s := fun w z h ra rb =>
      op_notIn_all hu pins s σ H _ _ v u Q I rx ry (by
        rcases run_in h S ra rb with ⟨p, xs, b, h1⟩ | ⟨d, ds, h1⟩ | h1
        · exact .inl ⟨p, xs, b, h1⟩
        · exact .inr (.inl ⟨d, ds, h1⟩)
        · exact .inr (.inr h1))
    cases b with
    | tup ws => exact key a _ (by rw [← nin_T]; exact h) ra rb
    | ref l => exact key a _ (by rw [← nin_R]; exact h) ra rb
    | str y =>
      cases a with
      | str z =>
        cases z with
        | nil => exact False.elim h
        | cons c z =>
          cases z with
          | cons c2 z => exact False.elim h
          | nil =>
            cases ra; cases rb
            exact op_notIn_sign pins s σ H _ _ v u Q I rx ry ⟨_, _, rfl, rfl, run_val h S (.bl _)⟩
      | _ => exact False.elim h
    | _ => cases a <;> first | exact False.elim h | (rename_i z; cases z with | nil => exact False.elim h | cons c z => cases z <;> exact False.elim h)
/-! ### truth -/
theorem tru_ok' : TruR X (rOT (T.g X) Xw truth) := by
  intro pins s σ H x v Q I rx h
  obtain ⟨σ', m, L, a, S, ra, h⟩ := h
  have fin : ∀ {k : Bool}, run (T.g X) Xw σ' RB (ret k) m H L Q → TruV X.K x H k → wpAny (model X.prog X.w) X.A (truthy v) (TP X pins σ Q) X.xe s := fun {k} h t =>
    tru_ok pins s σ H x v Q I rx ⟨k, t, run_ret (R := RB) h S rfl⟩
  cases a with
  | non => cases ra; exact fin h rfl
  | bl b => cases ra; exact fin h rfl
  | int i => cases ra; exact fin h rfl
  | str z =>
    cases ra
    rcases run_if h with ⟨c, h⟩ | ⟨_, h⟩
    · refine fin h ⟨by rw [str_len]; exact lenOk_le c, ?_⟩
      rw [str_len]
      cases z <;> simp
      omega
    · exact h.elim
  | tup ws =>
    cases ra with
    | tup hs hr => exact fin h (.inr (.inl ⟨_, sqT hs, by rw [hr.isEmpty]⟩))
  | ref l =>
    cases ra with
    | ref hl =>
      have h : run (T.g X) Xw σ' RB (match L[l]? with
        | some (.lst ws) => ret (!ws.isEmpty)
        | some (.ro ws) => ret (!ws.isEmpty)
        | _ => fail) m H L Q := h
      split at h
      · rename_i ws e
        obtain ⟨xs, hs, hr⟩ := S.seq hl (.inl e)
        exact fin h (.inl ⟨_, hs, by rw [hr.isEmpty]⟩)
      · rename_i ws e
        obtain ⟨xs, hs, hr⟩ := S.seq hl (.inr e)
        exact fin h (.inl ⟨_, hs, by rw [hr.isEmpty]⟩)
      · exact h.elim
  | exn c fs => exact False.elim h
  | clo k cs => exact False.elim h
  | scr ws => exact False.elim h
/-! ### items and slices -/
theorem atI_rel {K : PySem.W.Frag} {ws : List W} {xs : List V} (r : RelWs K m H ws xs) {i : Int} {w : W} (h : atI ws i = some w) : ∃ v, atI xs i = some v ∧ RelW K m H w v := by
  unfold atI at h ⊢
  rw [r.length] at h
  cases e : ixN xs.length i with
  | none => rw [e] at h; simp at h
  | some j =>
    rw [e] at h
    simp only [Option.bind_some] at h ⊢
    exact r.get h
theorem ix_ok (hu : X.A.units + 65 < cLine) : IxR X (rO2 (T.g X) Xw itemAt) := by
  intro value slice pins s σ H x y v u Q I rx ry h hsl
  obtain ⟨σ', m, L, a, b, S, ra, rb, h⟩ := h
  cases a with
  | str z =>
    cases b <;> try exact False.elim h
    rename_i i
    cases ra; cases rb
    rcases run_if h with ⟨c, h⟩ | ⟨_, h⟩
    · split at h
      · rename_i c0 e
        exact ix_str value slice pins s σ H _ _ v u Q I rx ry ⟨_, _, c0, rfl, rfl, by rw [str_len]; exact lenOk_le c, e, run_val h S (.str [c0])⟩ hsl
      · exact h.elim
    · exact h.elim
  | tup ws =>
    cases b <;> try exact False.elim h
    rename_i i
    cases rb
    cases ra with
    | tup hs hr =>
      have h : run (T.g X) Xw σ' (RelW X.K) (match atI ws i with | some w => ret w | none => fail) m H L Q := h
      split at h
      · rename_i w e
        obtain ⟨vv, e2, r2⟩ := atI_rel hr e
        exact ix_tup value slice pins s σ H _ _ v u Q I rx ry ⟨_, _, _, vv, rfl, rfl, sqT hs, e2, run_val h S r2⟩ hsl
      · exact h.elim
  | ref l =>
    cases ra with
    | ref hl =>
      have key : ∀ ws i, b = .int i → (L[l]? = some (.lst ws) ∨ L[l]? = some (.ro ws)) → run (T.g X) Xw σ' (RelW X.K) (match atI ws i with | some w => ret w | none => fail) m H L Q → wpAny (model X.prog X.w) X.A (subscriptTail value slice v u) (EP X pins σ Q) X.xe s := fun ws i eb hw hh => by
        subst eb
        cases rb
        obtain ⟨xs, hs, hr⟩ := S.seq hl hw
        split at hh
        · rename_i w e
          obtain ⟨vv, e2, r2⟩ := atI_rel hr e
          exact ix_list value slice pins s σ H _ _ v u Q I rx ry ⟨_, _, _, vv, rfl, rfl, hs, e2, run_val hh S r2⟩ hsl
        · exact hh.elim
      have h2 : run (T.g X) Xw σ' (RelW X.K) (match L[l]? with
        | some (.lst ws) => (match b with
          | .int i => (match atI ws i with | some w => ret w | none => fail)
          | _ => fail)
        | some (.ro ws) => (match b with
          | .int i => (match atI ws i with | some w => ret w | none => fail)
          | _ => fail)
        | some (.dct tt kvs) => (match keyFit tt b with
          | some k => (match dGet kvs k with | some w => ret w | none => fail)
          | none => fail)
        | _ => fail) m H L Q := by cases b <;> exact h
      split at h2
      · rename_i ws e
        cases b <;> try exact False.elim h2
        exact key ws _ rfl (.inl e) h2
      · rename_i ws e
        cases b <;> try exact False.elim h2
        exact key ws _ rfl (.inr e) h2
      · rename_i tt kvs e
        split at h2
        · rename_i k ek
          rcases dget_ok S hl e rb ek with ⟨a1, a2⟩ | ⟨z, vv, a1, a2, a3⟩
          · rw [a1] at h2; exact h2.elim
          · rw [a1] at h2
            exact ix_dct (by omega) value slice pins s σ H _ _ v u Q I rx ry ⟨_, vv, rfl, a2, run_val h2 S a3⟩ hsl
        · exact h2.elim
      · exact h2.elim
  | _ => cases b <;> exact False.elim h
theorem cutL_rel {K : PySem.W.Frag} {ws : List W} {xs : List V} (r : RelWs K m H ws xs) (lo hi : Option Int) : RelWs K m H (cutL ws lo hi) (cutV xs lo hi) := by
  unfold cutL cutV cutI
  rw [r.length]
  exact (r.drop _).take _
theorem sl_ok {f : W → Option Int → Option Int → M W} (hf : f = sliceOf) : SlR X (fun x lo hi H Q => ∃ σ m L a, Sim (T.g X) m L H ∧ RelW X.K m H a x ∧ run (T.g X) Xw σ (RelW X.K) (f a lo hi) m H L Q) := by
  subst hf
  intro pins s σ H x v vl vu lo hi sl Q I rx hs pl pu h
  obtain ⟨σ', m, L, a, S, ra, h⟩ := h
  cases a with
  | str z =>
    cases ra
    rcases run_if h with ⟨c, h⟩ | ⟨_, h⟩
    · have e : cutS (⟨z.toArray⟩ : Str) lo hi = ⟨(cutL z lo hi).toArray⟩ := by
        unfold cutS cutL cutI
        simp [Str.length]
      exact sl_str pins s σ H _ v vl vu lo hi sl Q I rx hs pl pu ⟨_, rfl, by rw [str_len]; exact lenOk_le c, by rw [e]; exact run_val h S (.str _)⟩
    · exact h.elim
  | tup ws =>
    cases ra with
    | tup ht hr => exact sl_tupA pins s σ H _ v vl vu lo hi sl Q I rx hs pl pu ⟨_, _, rfl, sqT ht, fun e => run_val h S (.tup ht (by
        have z := cutL_rel hr lo hi
        have e2 : ∀ xs : List V, HT.sIx xs.length 0 lo = 0 ∧ HT.sIx xs.length xs.length hi = xs.length → cutV xs lo hi = xs := fun xs q => by
          unfold cutV
          rw [q.1, q.2]
          simp
        rw [e2 _ e] at z
        exact z)), fun _ p hp => run_tup h S (cutL_rel hr lo hi) hp⟩
  | scr ws =>
    cases ra with
    | scr hs hr => exact sl_list pins s σ H _ v vl vu lo hi sl Q I rx (by assumption) pl pu ⟨_, _, rfl, hs.sq, fun p hp => run_new h S (cutL_rel hr lo hi) hp⟩
  | ref l =>
    cases ra with
    | ref hl =>
      have key : ∀ ws, (L[l]? = some (.lst ws) ∨ L[l]? = some (.ro ws)) → run (T.g X) Xw σ' (RelW X.K) (alloc (.lst (cutL ws lo hi))) m H L Q → ∃ T id, typeLookup (.type T) "__getitem__" = pure (some (.builtin id)) ∧ s.TypeIs v T ∧ wpAny (model X.prog X.w) X.A (getItem v (.ref sl)) (EP X pins σ Q) X.xe s := fun ws hw h => by
        obtain ⟨xs, hs', hr⟩ := S.seq hl hw
        exact sl_list pins s σ H _ v vl vu lo hi sl Q I rx hs pl pu ⟨_, _, rfl, hs', fun p hp => run_new h S (cutL_rel hr lo hi) hp⟩
      have h : run (T.g X) Xw σ' (RelW X.K) (match L[l]? with
        | some (.lst ws) => alloc (.lst (cutL ws lo hi))
        | some (.ro ws) => alloc (.lst (cutL ws lo hi))
        | _ => fail) m H L Q := h
      split at h
      · rename_i ws e; exact key ws (.inl e) h
      · rename_i ws e; exact key ws (.inr e) h
      · exact h.elim
  | _ => exact False.elim h
end
end Dx

set_option maxRecDepth 100000
set_option maxHeartbeats 2000000
/-! Dx5: expressions: the checker of a text's expression against the small one, and that the run is as the evaluator says. -/
namespace Dx
open PySem PySem.Spec PyProof.Rows L2

def ofW (W : WX) : XW := fun σ _ cls d H => W cls d σ H
def tM {α β : Type} (g : G) (W : WX) (R : List Addr → Hp → α → β → Prop) (f : Fr → M α) (σ : L2.St) (H : Hp) (Q : β → Hp → Prop) : Prop :=
  ∃ m ρ L, Sim g m L H ∧ RelF g.K m H ρ σ ∧ run g (ofW W) σ R (f ρ) m H L Q
section
variable {g : G} {W : WX} {α β γ δ : Type} {R : List Addr → Hp → α → β → Prop} {R' : List Addr → Hp → γ → δ → Prop} {σ : L2.St} {H : Hp} {Q Q' : β → Hp → Prop}
theorem tM.imp {f : Fr → M α} (h : tM g W R f σ H Q) (k : ∀ b H', Q b H' → Q' b H') : tM g W R f σ H Q' :=
  let ⟨m, ρ, L, S, F, r⟩ := h
  ⟨m, ρ, L, S, F, r.imp k⟩
theorem tM_bnd {a : Fr → M γ} {f : Fr → γ → M α} (h : tM g W R (fun ρ => bnd (a ρ) (f ρ)) σ H Q) :
    tM g W R' a σ H (fun d H1 => ∃ m1 ρ L1 x, Sim g m1 L1 H1 ∧ RelF g.K m1 H1 ρ σ ∧ R' m1 H1 x d ∧ run g (ofW W) σ R (f ρ x) m1 H1 L1 Q) :=
  let ⟨m, ρ, L, S, F, r⟩ := h
  ⟨m, ρ, L, S, F, (run_bnd r).imp fun d H1 ⟨m1, L1, x, e, S1, r1, q⟩ => ⟨m1, ρ, L1, x, S1, F.mono e, r1, q⟩⟩
end
abbrev tE (T : Tab) (C : Env) (W : WX) (X : Cx) (x : Ex) : TE := tM (T.g X) W (RelW X.K) fun ρ => evE C ρ x
abbrev tT (T : Tab) (C : Env) (W : WX) (X : Cx) (x : Tx) : TT := tM (T.g X) W RB fun ρ => evT C ρ x
abbrev tA (T : Tab) (C : Env) (W : WX) (X : Cx) (xs : List Ex) : TA := tM (T.g X) W (RelWs X.K) fun ρ => evEs C ρ xs
theorem PE_imp {X : Cx} {e : Expr} {t t' : TE} (h : PE X e t) (k : ∀ σ H Q, t' σ H Q → t σ H Q) : PE X e t' := ⟨fun pins s σ H Q I q => h.run pins s σ H Q I (k σ H Q q)⟩
theorem PT_imp {X : Cx} {e : Expr} {t t' : TT} (h : PT X e t) (k : ∀ σ H Q, t' σ H Q → t σ H Q) : PT X e t' := ⟨fun pins s σ H Q I q => h.run pins s σ H Q I (k σ H Q q)⟩
theorem PW_imp {X : Cx} {e : Expr} {t t' : TT} (h : PW X e t) (k : ∀ σ H Q, t' σ H Q → t σ H Q) : PW X e t' := ⟨fun wh pins s σ H Q I q => h.run wh pins s σ H Q I (k σ H Q q)⟩
theorem PA_imp {X : Cx} {e : List Expr} {t t' : TA} (h : PA X e t) (k : ∀ σ H Q, t' σ H Q → t σ H Q) : PA X e t' := ⟨fun pos pins s σ H Q I q => h.run pos pins s σ H Q I (k σ H Q q)⟩

/-! ### the program's tables -/
/-- where a function stands: a global's, a class's method, a property's getter -/
inductive AtP where | glo (x : Str) | meth (c m : Str) | get (c f : Str)
  deriving DecidableEq
def prA (K : PySem.W.Frag) (C : Addr) (f : Str) : Addr := match PySem.W.findIn K (.ref C) f with
  | some (some (.ref p)) => p
  | _ => 0
def gtA (K : PySem.W.Frag) (C : Addr) (f : Str) : Addr := match PySem.W.recIn K (prA K C f) "property" with
  | some (.ref g :: _) => g
  | _ => 0
def AtP.ad (K : PySem.W.Frag) : AtP → Addr
  | .glo x => He.ga K x
  | .meth c m => He.ma K (He.ga K c) m
  | .get c f => gtA K (He.ga K c) f
/-- a call's target: the function, how many written arguments, the keywords' names -/
structure Tg where
  at_ : AtP
  npos : Nat
  kws : List Str
structure Pg where
  gi : List (Str × Int)
  gs : List (Str × Txt)
  free : List Str
  tg : List Tg
  cls : List Str := []
  fld : List Str := []
  mf : List (Str × Nat × List Str) := []
  pf : List Str := []
  mkf : List (Str × Nat × List Str) := []
  noatL : List (Str × Str) := []
  methL : List (Str × Str) := []
  propL : List (Str × Str) := []
  mkrL : List Str := []
  subL : List (Nat × Nat) := []
  gd : List (Str × List (Txt × W)) := []
  gt : List (Str × List Txt) := []
def Pg.sub (p : Pg) (a b : Nat) : Bool := a == b || p.subL.contains (a, b)
/-- a class whose instances are made and asked -/
structure ClsX (K : PySem.W.Frag) (C : Addr) : Prop where
  cl : Cls K C
  ha : PySem.W.findIn K (.ref C) "__class__" = some (some (.builtin "object.__class__"))
  hn : PySem.W.specialIn K (.builtin "object.__class__") "__get__" = some (some (.builtin "getset_descriptor.__get__"))
  tk : PySem.W.takesIn K (.builtin "object.__class__") = some true
  hm : PySem.W.mroIn K C (.type "object") = some true
def nmAll : List String := ["NoneType", "bool", "int", "str", "tuple", "list", "dict"]
def gdOk (K : PySem.W.Frag) (w : World) (a : Addr) (kvs : List (Txt × W)) : Prop := ∃ es n, KDict K w a es n ∧ ∀ t : Txt, (match kvs.lookup t with
  | some v => ∃ u y, PySem.W.nsIn K a ⟨t.toArray⟩ = some (some u) ∧ RelV y u ∧ ∀ m H, RelW K m H v y
  | none => PySem.W.nsIn K a ⟨t.toArray⟩ = some none)
structure PgOk (p : Pg) (K : PySem.W.Frag) (w : World) (mg : Str → Option Value) : Prop where
  gi : ∀ q ∈ p.gi, ∃ t, mg q.1 = some (.int q.2 t)
  gs : ∀ q ∈ p.gs, ∃ t, mg q.1 = some (.str ⟨q.2.toArray⟩ t)
  free : ∀ x ∈ p.free, mg x = none
  cls : ∀ x ∈ p.cls, mg x = some (.ref (He.ga K x)) ∧ ClsX K (He.ga K x)
  kit : ∀ (i j : Nat) (x y : Str), p.cls[i]? = some x → p.cls[j]? = some y → PySem.W.kitOne K (.ref (He.ga K x)) (.ref (He.ga K y)) = some (p.sub i j)
  kitT : ∀ y ∈ p.cls, ∀ a ∈ nmAll, PySem.W.kitOne K (.type a) (.ref (He.ga K y)) = some false
  noat : ∀ q ∈ p.noatL, NoAttr K (He.ga K q.1) q.2
  meth : ∀ q ∈ p.methL, Meth K (He.ga K q.1) q.2 (He.ma K (He.ga K q.1) q.2)
  prop : ∀ q ∈ p.propL, PropOf K (He.ga K q.1) q.2 (prA K (He.ga K q.1) q.2) (gtA K (He.ga K q.1) q.2)
  mkr : ∀ x ∈ p.mkrL, Mk K (He.ga K x) (He.ma K (He.ga K x) "__init__")
  gd : ∀ q ∈ p.gd, ∃ a, mg q.1 = some (.ref a) ∧ gdOk K w a q.2
  gt : ∀ q ∈ p.gt, ∃ a, mg q.1 = some (.ref a) ∧ ∀ H, SqT K H a (q.2.map fun t => V.str ⟨t.toArray⟩)
def duName : Nat → Option Str
  | 0 => some "__len__" | 1 => some "__repr__" | 2 => some "__contains__" | 3 => some "__eq__" | 4 => some "__add__" | 5 => some "__mul__" | _ => none
def duN : Nat → Nat
  | 0 => 1 | 1 => 1 | _ => 2
/-- the evaluator's tables are the program's -/
structure CfOk (p : Pg) (C : Env) : Prop where
  cf : ∀ c f, C.cf c f = true → ∃ x y, p.cls[c]? = some x ∧ p.fld[f]? = some y ∧ (x, y) ∈ p.noatL
  mt : ∀ c m t, C.mt c m = some t → ∃ x nm np kws g, p.cls[c]? = some x ∧ p.mf[m]? = some (nm, np, kws) ∧ p.tg[t]? = some g ∧ g.at_ = .meth x nm ∧ g.npos = np + 1 ∧ g.kws = kws ∧ (x, nm) ∈ p.methL ∧ nm ∉ p.fld
  pt : ∀ c m t, C.pt c m = some t → ∃ x nm g, p.cls[c]? = some x ∧ p.pf[m]? = some nm ∧ p.tg[t]? = some g ∧ g.at_ = .get x nm ∧ g.npos = 1 ∧ g.kws = [] ∧ (x, nm) ∈ p.propL
  mks : ∀ k c t, C.mks k = some (c, t) → ∃ x np kws g, p.cls[c]? = some x ∧ p.mkf[k]? = some (x, np, kws) ∧ p.tg[t]? = some g ∧ g.at_ = .meth x "__init__" ∧ g.npos = np + 1 ∧ g.kws = kws ∧ x ∈ p.mkrL
  du : ∀ c i, C.du c i = none
  sub : C.sub = p.sub
  fnd : p.fld.Nodup
/-- the names of a def, its scope -/
structure Dc where
  N : List Str
  sc : Scope
  asn : List Str
def visB (sc : Scope) (y : Str) : Bool := match sc.names.lookup y with
  | some .local => true
  | some .cell => true
  | some .free => true
  | _ => false
def locB (sc : Scope) (y : Str) : Bool := match sc.names.lookup y with
  | some .local => true
  | some .cell => true
  | _ => false
def glB (sc : Scope) (y : Str) : Bool := match sc.names.lookup y with
  | some .globalImplicit => y != ("__debug__" : Str)
  | _ => false
def bltB (p : Pg) (sc : Scope) (y : Str) (n : Str) : Bool := decide (y = n) && glB sc y && p.free.contains y && y != ("__name__" : Str)

def biName : Bi → Str
  | .sumf => "sum" | .boolf => "bool"
  | .len => "len" | .absf => "abs" | .maxf => "max" | .minf => "min" | .intf => "int" | .allf => "all" | .anyf => "any" | .sortedf => "sorted" | .listf => "list" | .tuplef => "tuple" | .strf => "str" | .reprf => "repr"
def bmName : Bm → Str
  | .index => "index" | .indexs => "index"
  | .join => "join" | .append => "append" | .pop => "pop" | .find => "find" | .islower => "islower" | .isalpha => "isalpha" | .startswith => "startswith" | .endswith => "endswith" | .split => "split"

def bmOk : Bm → Bool
  | .join => true | .append => true | .islower => true | .isalpha => true | .pop => true | .find => true | .startswith => true | .endswith => true
  | _ => false
/-- no call of super -/
def noSup : Expr → Bool
  | .Call (.Name _ _) [] [] _ => false
  | _ => true

mutual
def tgIx : Tgt → List Nat
  | .nm i => [i]
  | .tup ts => tgIxs ts
  | .sub _ _ => []
  | .fld _ _ => []
def tgIxs : List Tgt → List Nat
  | [] => []
  | t :: ts => tgIx t ++ tgIxs ts
end
mutual
def tgPl : Tgt → Bool
  | .nm _ => true
  | .tup ts => tgPls ts
  | .sub _ _ => false
  | .fld _ _ => false
def tgPls : List Tgt → Bool
  | [] => true
  | t :: ts => tgPl t && tgPls ts
end
def tgOwn (own : List Nat) (t : Tgt) : Bool := tgPl t && (tgIx t).all own.contains
def tyNames : List String := ["int", "str", "bool", "list", "tuple", "dict"]
def chkCls (p : Pg) (c : Dc) : List Cl → List Expr → Bool
  | [], es => es.isEmpty
  | .ty s :: cs, es => (match es with
    | .Name n _ :: es => bltB p c.sc n (Str.ofString s) && tyNames.contains s && chkCls p c cs es
    | _ => false)
  | .own _ :: _, _ => false
/-- flat values alike -/
def flB : W → W → Bool
  | .int a, .int b => decide (a = b)
  | .str a, .str b => decide (a = b)
  | _, _ => false
def kvB : List (Txt × W) → List (Txt × W) → Bool
  | [], [] => true
  | (t, v) :: r, (t2, v2) :: r2 => decide (t = t2) && flB v v2 && kvB r r2
  | _, _ => false
/-- a keyword's name -/
def kwB (ks : List Keyword) (kws : List Str) : Bool := decide (ks.map (·.arg) = kws.map some)
mutual
def chkE (p : Pg) (c : Dc) : Ex → Expr → Bool
  | .var i, e => (match e with
    | .Name y _ => visB c.sc y && decide (c.N[i]? = some y) && y != ("__debug__" : Str) && y != ("__classdict__" : Str)
    | _ => false)
  | .kn, e => (match e with
    | .Constant .none _ _ => true
    | _ => false)
  | .kb b, e => (match e with
    | .Constant (.bool d) _ _ => b == d
    | _ => false)
  | .ki i, e => (match e with
    | .Constant (.int d) _ _ => decide (i = d)
    | _ => false)
  | .ks x, e => (match e with
    | .Constant (.str d) _ _ => decide (d = ⟨x.toArray⟩)
    | _ => false)
  | .gi n i, e => (match e with
    | .Name y _ => decide (y = n) && glB c.sc y && p.gi.contains (y, i)
    | _ => false)
  | .gs n x, e => (match e with
    | .Name y _ => decide (y = n) && glB c.sc y && p.gs.contains (y, x)
    | _ => false)
  | .bin op a b, e => (match e with
    | .BinOp l o r _ => decide (o = bopP op) && chkE p c a l && chkE p c b r
    | _ => false)
  | .neg a, e => (match e with
    | .UnaryOp .USub l _ => chkE p c a l
    | _ => false)
  | .cmp op a b, e => (match e with
    | .Compare l [o] [r] _ => decide (o = copP op) && chkE p c a l && chkE p c b r
    | _ => false)
  | .chn o1 o2 a b d, e => (match e with
    | .Compare l [p1, p2] [r1, r2] _ => decide (p1 = copP o1) && decide (p2 = copP o2) && chkE p c a l && chkE p c b r1 && chkE p c d r2
    | _ => false)
  | .band xs, e => (match e with
    | .BoolOp .And es _ => chkEs p c xs es && !es.isEmpty
    | _ => false)
  | .bor xs, e => (match e with
    | .BoolOp .Or es _ => chkEs p c xs es && !es.isEmpty
    | _ => false)
  | .bnot a, e => (match e with
    | .UnaryOp .Not l _ => chkE p c a l
    | _ => false)
  | .ifx t a b, e => (match e with
    | .IfExp q l r _ => chkT p c t q && chkE p c a l && chkE p c b r
    | _ => false)
  | .sub a i, e => (match e with
    | .Subscript l r _ => chkE p c a l && chkE p c i r
    | _ => false)
  | .slc a lo hi, e => (match e with
    | .Subscript l (.Slice x y none _) _ => chkE p c a l && chkO p c lo x && chkO p c hi y
    | _ => false)
  | .lst xs, e => (match e with
    | .List es _ => chkEs p c xs es
    | _ => false)
  | .tup xs, e => (match e with
    | .Tuple es _ _ => chkEs p c xs es
    | _ => false)
  | .call t xs ys, e => (match e with
    | .Call (.Name y _) es ks _ => (match p.tg[t]? with
      | some g => decide (g.at_ = .glo y) && glB c.sc y && es.length == g.npos && decide (ks.map (·.arg) = g.kws.map some) && chkEs p c xs es && chkEs p c ys (ks.map (·.value))
      | none => false)
    | _ => false)
  | .bi b xs, e => (match e with
    | .Call (.Name y _) es [] _ => bltB p c.sc y (biName b) && !es.isEmpty && chkEs p c xs es
    | _ => false)
  | .met m o xs, e => (match e with
    | .Call (.Attribute l n apos) es [] cpos => decide (n = bmName m) && bmOk m && noSup l && (apos.endLine == cpos.line) && decide (es.length < 20) && chkE p c o l && chkEs p c xs es
    | _ => false)
  | .lc own t it cs x, e => (match e with
    | .ListComp elt [⟨tg, iter, ifs, a⟩] scope _ => decide (a = 0) && blkC c.N c.sc scope own && (own.all fun q => match scope.names.lookup q.1 with
        | some .local => true
        | some .cell => true
        | _ => false) && tgOwn (own.map (·.2)) t && chkI p c it tg iter && chkG p ⟨c.N, relS scope c.sc, own.map (·.1)⟩ t tg && chkTs p ⟨c.N, relS scope c.sc, own.map (·.1)⟩ cs ifs && decide (ifs.length ≤ 1) && chkE p ⟨c.N, relS scope c.sc, own.map (·.1)⟩ x elt
    | _ => false)
  | .fld o f, e => (match e with
    | .Attribute l n _ => noSup l && decide (p.fld[f]? = some n) && chkE p c o l
    | _ => false)
  | .prp o m, e => false
  | .mcall m o xs ys, e => (match e with
    | .Call (.Attribute l n apos) es ks cpos => (match p.mf[m]? with
      | some (nm, np, kws) => decide (n = nm) && noSup l && (apos.endLine == cpos.line) && decide (es.length + ks.length < 20) && decide (es.length = np) && kwB ks kws && chkE p c o l && chkEs p c xs es && chkEs p c ys (ks.map (·.value))
      | none => false)
    | _ => false)
  | .mk k xs ys, e => (match e with
    | .Call (.Name y _) es ks _ => (match p.mkf[k]? with
      | some (x, np, kws) => decide (y = x) && glB c.sc y && p.cls.contains y && p.mkrL.contains y && decide (es.length = np) && kwB ks kws && chkEs p c xs es && chkEs p c ys (ks.map (·.value))
      | none => false)
    | _ => false)
  | .isi x cl, e => (match e with
    | .Call (.Name y _) [l, .Name n _] [] _ => bltB p c.sc y "isinstance" && chkE p c x l && (match cl with
      | .ty s => bltB p c.sc n (Str.ofString s) && tyNames.contains s
      | .own k => decide (p.cls[k]? = some n) && glB c.sc n)
    | _ => false)
  | .isis x cs, e => (match e with
    | .Call (.Name y _) [l, .Tuple es _ _] [] _ => bltB p c.sc y "isinstance" && chkE p c x l && chkCls p c cs es
    | _ => false)
  | .srtset x, e => (match e with
    | .Call (.Name y _) [.Call (.Name z _) [l] [] _] [] _ => bltB p c.sc y "sorted" && bltB p c.sc z "set" && chkE p c x l
    | _ => false)
  | .lenset x, e => false
  | .rev x, e => (match e with
    | .Subscript l (.Slice none none (some (.UnaryOp .USub (.Constant (.int i) _ _) _)) _) _ => decide (i = 1) && chkE p c x l
    | _ => false)
  | .fst ps, e => (match e with
    | .JoinedStr (a :: b :: r) _ => chkFs p c ps (a :: b :: r)
    | _ => false)
  | .dnew _, e => (match e with
    | .Dict [] [] _ => true
    | _ => false)
  | .dsp ps, e => (match e with
    | .Dict ks vs _ => !ks.isEmpty && decide (ks.length ≤ 15) && chkPs p c ps ks vs
    | _ => false)
  | .dgetd o k x, e => (match e with
    | .Call (.Attribute l n apos) [a, b] [] cpos => decide (n = ("get" : Str)) && noSup l && (apos.endLine == cpos.line) && chkE p c o l && chkE p c k a && chkE p c x b
    | _ => false)
  | .kin ng x g ks, e => (match e with
    | .Compare l [op] [.Name y _] _ => decide (op = if ng then .NotIn else .In) && chkE p c x l && decide (y = g) && glB c.sc y && ((p.gt.contains (g, ks)) || (p.gd.any fun q => decide (q.1 = g) && decide (q.2.map (·.1) = ks)))
    | _ => false)
  | .kget x g kvs, e => (match e with
    | .Subscript (.Name y _) l _ => chkE p c x l && decide (y = g) && glB c.sc y && (p.gd.any fun q => decide (q.1 = g) && kvB q.2 kvs)
    | _ => false)
  | .gt _ _, e => false
  | .dun i a b, e => false
  | .why _, e => false
def chkFs (p : Pg) (c : Dc) : List Ex → List Expr → Bool
  | [], es => es.isEmpty
  | x :: xs, es => (match es with
    | e :: es => (match e with
      | .FormattedValue l conv none _ => decide (conv = -1) && chkE p c x l
      | .Constant (.str d) i q => chkE p c x (.Constant (.str d) i q)
      | _ => false) && chkFs p c xs es
    | [] => false)
def chkPs (p : Pg) (c : Dc) : List Ex → List (Option Expr) → List Expr → Bool
  | [], ks, vs => ks.isEmpty && vs.isEmpty
  | [_], _, _ => false
  | k :: v :: r, ks, vs => (match ks, vs with
    | some ke :: ks, ve :: vs => chkE p c k ke && chkE p c v ve && chkPs p c r ks vs
    | _, _ => false)
def chkEs (p : Pg) (c : Dc) : List Ex → List Expr → Bool
  | [], es => es.isEmpty
  | x :: xs, es => (match es with
    | e :: es => chkE p c x e && chkEs p c xs es
    | [] => false)
def chkO (p : Pg) (c : Dc) : Option Ex → Option Expr → Bool
  | none, e => e.isNone
  | some x, e => (match e with
    | some e => chkE p c x e
    | none => false)
def chkT (p : Pg) (c : Dc) : Tx → Expr → Bool
  | .val x, e => (match e with
    | .BoolOp .. => false
    | .IfExp .. => false
    | .Compare .. => false
    | .UnaryOp .Not _ _ => false
    | e => chkE p c x e)
  | .bv x, e => (match e with
    | .Compare .. => chkE p c x e
    | _ => false)
  | .all ts, e => (match e with
    | .BoolOp .And es _ => chkTs p c ts es && !es.isEmpty
    | _ => false)
  | .any ts, e => (match e with
    | .BoolOp .Or es _ => chkTs p c ts es && !es.isEmpty
    | _ => false)
  | .nt t, e => (match e with
    | .UnaryOp .Not l _ => chkT p c t l
    | _ => false)
def chkTs (p : Pg) (c : Dc) : List Tx → List Expr → Bool
  | [], es => es.isEmpty
  | x :: xs, es => (match es with
    | e :: es => chkT p c x e && chkTs p c xs es
    | [] => false)
def chkI (p : Pg) (c : Dc) : It → Expr → Expr → Bool
  | .e x, _, e => chkE p c x e
  | .rng xs, _, e => (match e with
    | .Call (.Name y _) es [] _ => bltB p c.sc y "range" && chkEs p c xs es && (es.length == 1 || es.length == 2)
    | _ => false)
  | .enum x, t, e => (match t, e with
    | .Tuple _ _ _, .Call (.Name y _) [l] [] _ => bltB p c.sc y "enumerate" && chkE p c x l
    | _, _ => false)
  | .zip x y, t, e => (match t, e with
    | .Tuple _ _ _, .Call (.Name n _) [l, r] [] _ => bltB p c.sc n "zip" && chkE p c x l && chkE p c y r
    | _, _ => false)
def chkG (p : Pg) (c : Dc) : Tgt → Expr → Bool
  | .nm i, e => (match e with
    | .Name y _ => decide (c.N[i]? = some y) && locB c.sc y && c.asn.contains y
    | _ => false)
  | .tup ts, e => (match e with
    | .Tuple es _ _ => tgPls ts && chkGs p c ts es
    | _ => false)
  | .sub o i, e => (match e with
    | .Subscript l r _ => chkE p c o l && chkE p c i r
    | _ => false)
  | .fld o f, e => (match e with
    | .Attribute l n _ => noSup l && decide (p.fld[f]? = some n) && chkE p c o l
    | _ => false)
def chkGs (p : Pg) (c : Dc) : List Tgt → List Expr → Bool
  | [], es => es.isEmpty
  | x :: xs, es => (match es with
    | e :: es => chkG p c x e && chkGs p c xs es
    | [] => false)
end
theorem chk_star {p : Pg} {c : Dc} {x : Ex} {e : Expr} {pos : Pos} : chkE p c x (.Starred e pos) = false := by cases x <;> rfl
theorem chk_slice {p : Pg} {c : Dc} {x : Ex} {a b d : Option Expr} {pos : Pos} : chkE p c x (.Slice a b d pos) = false := by cases x <;> rfl
theorem star_plain {p : Pg} {c : Dc} {x : Ex} {e : Expr} (h : chkE p c x e = true) (es : List Expr) (env : PySem.Env) : starEach (e :: es) env = (false, eval e env) :: starEach es env := by
  cases e <;> first | rfl | (rw [chk_star] at h; cases h)
theorem chkEs_star {p : Pg} {c : Dc} : ∀ {xs : List Ex} {es : List Expr}, chkEs p c xs es = true → ∀ (env : PySem.Env) (pos : Pos), (backTo pos (starEach es env)).any (·.1) = false
  | [], es, h, env, pos => by
    cases es with
    | nil => rfl
    | cons e es => simp [chkEs] at h
  | x :: xs, es, h, env, pos => by
    cases es with
    | nil => simp [chkEs] at h
    | cons e es =>
      simp only [chkEs, Bool.and_eq_true] at h
      rw [star_plain h.1]
      have := chkEs_star h.2 env pos
      simp only [backTo, List.map_cons, List.any_cons, Bool.false_or] at this ⊢
      exact this
end Dx

set_option maxRecDepth 100000
set_option maxHeartbeats 4000000
/-! Dx6s: sets of keys of one kind, as sorted(set(..)) makes them: built from a text's signs, gathered, sorted. -/
namespace Dx
open PySem PySem.Spec PyProof.Rows L2
section
variable {P : Program} {w : World} {K : Type} [DecidableEq K] {kd : KeyKind P w K} {A : Around} {E : Value → Shared → Prop} {s : Shared}
abbrev Ent : Type := Int × Value
/-- no key stands twice -/
def Apart (kd : KeyKind P w K) (l : List Ent) : Prop := l.Pairwise fun e f => ∀ k, kd.is k e.2 = true → kd.is k f.2 = false
theorem apart_sym {e f : Ent} (h : ∀ k, kd.is k e.2 = true → kd.is k f.2 = false) : ∀ k, kd.is k f.2 = true → kd.is k e.2 = false := fun k hk => by
  cases q : kd.is k e.2 with
  | false => rfl
  | true => rw [h k q] at hk; cases hk
theorem Apart.perm {l l' : List Ent} (h : Apart kd l) (p : l'.Perm l) : Apart kd l' := (p.pairwise_iff (fun {a b} q => apart_sym q)).mpr h
def led (w : World) : Bool := !w.params.followText "set-order"
def Led (w : World) (t : SetTable) : Prop := w.params.followText "set-order" = true ∨ t.led = true
/-- the set at a, as it is walked later: its members' test, their number -/
structure SetG (kd : KeyKind P w K) (h : Heap) (a : Addr) (S : K → Bool) (n : Nat) : Prop where
  ex : ∃ (o : Obj) (es : Array Ent) (ep : Nat) (t : SetTable), h.get? a = some o ∧ o.ExactSet ∧ o.data = .set es ep t ∧ ElemsOf kd es.toList ∧ Apart kd es.toList ∧ (∀ k, S k = true ↔ ∃ e ∈ es.toList, kd.is k e.2 = true) ∧ es.size = n ∧ n < scanBound ∧ t.fits es.size = true ∧ Ris t.place.toList ∧ Led w t
theorem SetG.keep {h h' : Heap} {a : Addr} {S : K → Bool} {n : Nat} (g : SetG kd h a S n) (k : ∀ o, h.get? a = some o → h'.get? a = some o) : SetG kd h' a S n :=
  let ⟨o, es, ep, t, ho, r⟩ := g.ex
  ⟨o, es, ep, t, k o ho, r⟩
theorem SetG.re {h : Heap} {a : Addr} {S S' : K → Bool} {n n' : Nat} (g : SetG kd h a S n) (e : ∀ k, S' k = S k) (en : n' = n) : SetG kd h a S' n' := by
  subst en
  rw [show S' = S from funext e]
  exact g
abbrev freshSet (w : World) : Obj := { cls := .type "set", dict := none, data := .set #[] 0 (.fresh 0 0 (!w.params.followText "set-order")) }
theorem setG_nil {h : Heap} {a : Addr} (ho : h.get? a = some (freshSet w)) : SetG kd h a (fun _ => false) 0 :=
  ⟨_, #[], 0, _, ho, ⟨rfl, rfl, rfl⟩, rfl, fun e he => by simp at he, List.Pairwise.nil, fun k => by simp, rfl, by decide, rfl, .nil, by
    show _ ∨ (!w.params.followText "set-order") = true
    cases w.params.followText "set-order"
    · right; rfl
    · left; rfl⟩
/-- the table's end of an addition -/
theorem setG_lay {g : Bool → Sem Unit} (hg : ∀ (b : Bool) (st : Shared) (R : Unit → Shared → Prop), R () st → wpAny (model P w) A (g b) R E st) {a : Addr} {o : Obj} {es es1 : Array Ent} {ep : Nat} {t t1 : SetTable} (ho : s.heap.get? a = some o) (hex : o.ExactSet) (hd : o.data = .set es ep t)
    {S : K → Bool} (x1 : ElemsOf kd es1.toList) (x2 : Apart kd es1.toList) (x3 : ∀ k, S k = true ↔ ∃ e ∈ es1.toList, kd.is k e.2 = true) (x4 : es1.size < scanBound) (x5 : t1.fits es1.size = true) (x6 : Ris t1.place.toList) (x7 : Led w t1) {dm : Bool} {R : Option Bool → Shared → Prop}
    (hR : ∀ h', Heap.SameBut a s.heap h' → SetG kd h' a S es1.size → R (some true) { s with heap := h' }) :
    wpAny (model P w) A (do storeSet a es1 t1; if (!dm && t1.tooFull) = true then do (do g (relayAll t1 es1 (SetTable.grown es1.size)).2.2; storeSet a (relayAll t1 es1 (SetTable.grown es1.size)).1 (relayAll t1 es1 (SetTable.grown es1.size)).2.1; pure (some true)) else pure (some true)) R E s := by
  refine wpAny_bind (wpAny_storeSet_of ho hd ?_ (fits_of_scanBound x4))
  have p1 := L2.store_at (es' := es1) (t' := t1) ho hd
  have b1 := Heap.SameBut.update s.heap a (Obj.putSet es1 t1)
  by_cases hc : (!dm && t1.tooFull) = true
  · rw [if_pos hc]
    have q1 := relayAll_perm t1 es1 (SetTable.grown es1.size)
    have q2 := relayAll_fits t1 es1 (SetTable.grown es1.size)
    have q3 := L2.relayAll_ris t1 es1 (SetTable.grown es1.size)
    have q4 := L2.relayAll_led t1 es1 (SetTable.grown es1.size)
    revert q1 q2 q3 q4
    rcases relayAll t1 es1 (SetTable.grown es1.size) with ⟨es2, t2, gv⟩
    intro q1 q2 q3 q4
    have z : es2.size = es1.size := by rw [← Array.length_toList, ← Array.length_toList]; exact q1.length_eq
    have z2 : es2.size < scanBound := by omega
    refine wpAny_bind (hg gv _ _ (wpAny_bind (wpAny_storeSet_of p1 rfl (wpAny_pure ?_) (fits_of_scanBound z2))))
    have p2 := L2.store_at (es' := es2) (t' := t2) p1 rfl
    refine hR _ (b1.trans (.update _ a _)) ⟨_, es2, _, t2, p2, hex, rfl, fun e he => x1 e (q1.mem_iff.mp he), x2.perm q1, fun k => (x3 k).trans ?_, z, x4, q2, q3, x7.imp id fun y => by rw [q4]; exact y⟩
    constructor
    · rintro ⟨e, he, k1⟩; exact ⟨e, q1.mem_iff.mpr he, k1⟩
    · rintro ⟨e, he, k1⟩; exact ⟨e, q1.mem_iff.mp he, k1⟩
  · rw [if_neg hc]
    exact wpAny_pure (hR _ b1 ⟨_, es1, _, t1, p1, hex, rfl, x1, x2, x3, rfl, x4, x5, x6, x7⟩)
theorem setG_add {a : Addr} {S : K → Bool} {n : Nat} {k : K} {v : Value} {Q : Bool → Shared → Prop} (hk : kd.is k v = true) (hv : v.scannable = true) (G : SetG kd s.heap a S n) (room : n + 1 < scanBound)
    (hQ : ∀ (b : Bool) h', Heap.SameBut a s.heap h' → SetG kd h' a (fun j => S j || decide (j = k)) (if S k = true then n else n + 1) → Q b { s with heap := h' }) :
    wpAny (model P w) A (setAddHashed a v (kd.hash k)) Q E s := by
  obtain ⟨o, es, ep, t, ho, hex, hd, g1, g2, g3, hn, hb, hf, g4, g5⟩ := G.ex
  subst hn
  unfold setAddHashed setAddHashedIn
  refine wpAny_holding (wpAny_bind (wpAny_setState_of ho hd hf ?_))
  dsimp only
  rw [byScan_of hv hb g1, if_pos rfl]
  unfold setAddByScan
  refine wpAny_bind (wpAny_bind (wpAny_rule (wpAny_bind (wpAny_setScan_of hk ho hd hf g1 ?_))))
  cases hfi : List.findIdx? (fun e => kd.is k e.2) es.toList
  case none =>
    dsimp only
    have out : ∀ e ∈ es.toList, kd.is k e.2 = false := fun e he => by simpa using List.findIdx?_eq_none_iff.mp hfi e he
    have sk : S k = false := by
      rcases q : S k with _ | _
      · rfl
      · obtain ⟨e, he, q2⟩ := (g3 k).mp q
        rw [out e he] at q2
        cases q2
    have gw : ∀ (b : Bool) {st : Shared} {R : Unit → Shared → Prop}, R () st → wpAny (model P w) A (match b with | true => rule "set.scan.the-table-gave-way" | false => pure ()) R E st := fun b st R q => by
      rcases b with _ | _
      · exact wpAny_pure q
      · exact wpAny_rule q
    have q1 := layNew_perm t es (kd.hash k) v
    have q2 := layNew_fits t es (kd.hash k) v
    have q3 := L2.layNew_ris t es (kd.hash k) v g4
    have q4 := L2.layNew_led t es (kd.hash k) v
    revert q1 q2 q3 q4
    rcases layNew t es (kd.hash k) v with ⟨es1, t1, dm, gv⟩
    intro q1 q2 q3 q4
    rw [Array.toList_push] at q1
    have pc : es1.toList.Perm ((kd.hash k, v) :: es.toList) := q1.trans (List.perm_append_singleton _ _)
    have y1 : ElemsOf kd es1.toList := fun e he => by
      rcases List.mem_cons.mp (pc.mem_iff.mp he) with z | z
      · subst z; exact ⟨⟨k, hk, rfl⟩, hv⟩
      · exact g1 e z
    have y2 : Apart kd es1.toList := Apart.perm (List.pairwise_cons.mpr ⟨fun e he j hj => by
      have e2 : j = k := kd.inj v j k hj hk
      subst e2
      exact out e he, g2⟩) pc
    have y3 : ∀ j, (S j || decide (j = k)) = true ↔ ∃ e ∈ es1.toList, kd.is j e.2 = true := fun j => by
      rw [Bool.or_eq_true, decide_eq_true_eq, g3 j]
      constructor
      · rintro (⟨e, he, z⟩ | rfl)
        · exact ⟨e, pc.mem_iff.mpr (List.mem_cons_of_mem _ he), z⟩
        · exact ⟨_, pc.mem_iff.mpr List.mem_cons_self, hk⟩
      · rintro ⟨e, he, z⟩
        rcases List.mem_cons.mp (pc.mem_iff.mp he) with u | u
        · subst u; exact .inr (kd.inj v j k z hk)
        · exact .inl ⟨e, u, z⟩
    have y4 : es1.size = es.size + 1 := by rw [← Array.length_toList, pc.length_eq]; simp
    have y5 : es1.size < scanBound := by omega
    have y7 : Led w t1 := g5.imp id fun z => by rw [q4]; exact z
    have fin : ∀ h', Heap.SameBut a s.heap h' → SetG kd h' a (fun j => S j || decide (j = k)) es1.size → Q true { s with heap := h' } := fun h' sb G' => hQ true h' sb (G'.re (fun _ => rfl) (by rw [sk, if_neg (by simp), y4]))
    dsimp only
    refine wpAny_bind (gw _ ?_)
    split
    · refine wpAny_bind ?_
      rw [hashByValue_scannable 8 hv]
      refine wpAny_pure (setG_lay (fun b st R q => gw b q) ho hex hd y1 y2 y3 y5 ?_ ?_ ?_ fun h' sb G' => wpAny_pure (fin h' sb G'))
      · first | exact q2 | (split <;> first | exact q2 | exact SetTable.fits_plain_off q2)
      · first | exact q3 | (split <;> exact q3)
      · first | exact y7 | (split <;> exact y7)
    · exact wpAny_bind (wpAny_pure (setG_lay (fun b st R q => gw b q) ho hex hd y1 y2 y3 y5 q2 q3 y7 fun h' sb G' => wpAny_pure (fin h' sb G')))
  case some j =>
    dsimp only
    obtain ⟨hj, pj, _⟩ := List.findIdx?_eq_some_iff_getElem.mp hfi
    have sk : S k = true := (g3 k).mpr ⟨_, List.getElem_mem hj, pj⟩
    refine wpAny_pure (wpAny_pure (hQ false s.heap (.refl a s.heap) (G.re (fun i => ?_) (by rw [if_pos sk]))))
    by_cases e : i = k
    · subst e; rw [sk]; rfl
    · rw [decide_eq_false e, Bool.or_false]
/-- all that an iterator gives is put in -/
theorem setG_all {I : Addr} {fp wr : List Addr} {G : Array GenState → Array GenState → Prop} {n : Nat} {Pv : Nat → Value → Prop} {St : Nat → Shared → Prop} {R : Result → Shared → Prop} (W : WalksS P w A.in1 I fp wr G n Pv St) (a : Addr) (hf : a ∉ fp) (ks : List K) (hn : n = ks.length) (hb : n + 1 < scanBound)
    (hv : ∀ i v, Pv i v → ∃ k, ks[i]? = some k ∧ kd.is k v = true ∧ v.scannable = true) (left : Nat) : ∀ (i : Nat) (st : Shared), n - i = left → i ≤ n → St i st → (∃ c, c ≤ i ∧ SetG kd st.heap a (fun j => decide (j ∈ ks.take i)) c) →
      (∀ st' c, Moved (a :: wr) G st st' → c ≤ n → SetG kd st'.heap a (fun j => decide (j ∈ ks)) c → R (.ok (.ret .none)) st') → codeAny (model P w) A (.builtin "set.update.loop" ⟨[.ref a, .ref I], []⟩) R st := by
  have nw : a ∉ wr := fun h => hf (W.sub _ h)
  have up : ∀ b ∈ wr, b ∈ a :: wr := fun b h => .tail _ h
  induction left with
  | zero =>
    intro i st e0 hi hst ⟨c, hc, g⟩ hR
    obtain rfl : i = n := by omega
    refine codeAny_builtin PyProof.Rows.F.entry_set_update_loop ?_
    rw [Around.under_plainId PyProof.Rows.F.plain_set_update_loop _]
    show wpAny _ A.in1 (pyNext (.ref I) >>= _) _ _ st
    refine wpAny_bind (W.done st _ _ hst fun st2 mv => ?_)
    rw [List.take_of_length_le (by omega)] at g
    exact wpAny_pure (hR st2 c (mv.mono up) hc (g.keep fun o e => mv.heap a o nw e))
  | succ left ih =>
    intro i st e0 hi hst ⟨c, hc, g⟩ hR
    have lt : i < n := by omega
    refine codeAny_builtin PyProof.Rows.F.entry_set_update_loop ?_
    rw [Around.under_plainId PyProof.Rows.F.plain_set_update_loop _]
    show wpAny _ A.in1 (pyNext (.ref I) >>= _) _ _ st
    refine wpAny_bind (W.item i st _ _ lt hst fun v st2 pv hst2 mv => ?_)
    obtain ⟨k, ek, kv, sv⟩ := hv i v pv
    have g2 := g.keep (h' := st2.heap) fun o e => mv.heap a o nw e
    show wpAny _ A.in1 (holding [v] (setAdd a v) >>= _) _ _ st2
    refine wpAny_bind (wpAny_holding ?_)
    unfold setAdd
    refine wpAny_holding (wpAny_bind (kd.pyHash kv (setG_add (s := { st2 with toks := st2.toks + 1 }) kv sv g2 (by omega) fun bb h' sb g3 => ?_)))
    have c3 : (if decide (k ∈ ks.take i) = true then c else c + 1) ≤ i + 1 := by split <;> omega
    have g4 : SetG kd h' a (fun j => decide (j ∈ ks.take (i + 1))) (if decide (k ∈ ks.take i) = true then c else c + 1) := g3.re (fun j => by rw [List.take_add_one, ek]; simp) rfl
    refine wpAny_pure ⟨plainId_quiet PyProof.Rows.F.plain_set_update_loop _, ih (i + 1) _ (by omega) lt (W.frame _ st2 _ _ hst2 (Nat.le_succ _) fun b hb2 o e => ?_) ⟨_, c3, g4⟩ fun st3 c4 mv3 hc4 g5 => ?_⟩
    · exact (sb.2 b (fun z => hf (z ▸ hb2))).trans e
    · exact hR st3 c4 (Moved.trans W.gtrans ((mv.mono up).then_heap (Nat.le_succ _) fun b o hb2 e => (sb.2 b (fun z => hb2 (z ▸ .head _))).trans e) mv3) hc4 g5
/-- the signs of a text -/
abbrev sgn (x : Str) : List Str := x.cps.toList.map fun c => (⟨#[c]⟩ : Str)
set_option maxHeartbeats 8000000 in
theorem call_set_txt {x : Str} {t : Tok} {Q : Value → Shared → Prop} (hh : A.handled = none) (hb : x.cps.size + 1 < scanBound)
    (h : ∀ (h' : Heap) (tk c : Nat), SetG (strKind P w) h' s.heap.objs.size (fun j => decide (j ∈ sgn x)) c → c ≤ x.cps.size → (∀ b o, s.heap.get? b = some o → h'.get? b = some o) → Q (.ref s.heap.objs.size) { s with heap := h', toks := tk }) :
    wpAny (model P w) A (call (.type "set") [.str x t]) Q E s := by
  obtain ⟨mc, ml, hm⟩ := PySem.F.called_set.mro
  have m1 := PySem.F.called_set.made
  have m2 := PySem.F.called_set.sub
  have m3 := PySem.F.called_set.notType
  have m4 := PySem.F.called_set.canCreate
  have m5 := PySem.F.typeCall_set_1 (.str x t)
  refine wpAny_call (codeAny_of_tree ?_)
  show wpAny _ _ (callAny (.type "set") _) _ _ _
  refine wpAny_pure ⟨Code.quiet_builtin _ (by decide +kernel), codeAny_builtin PySem.F.entry_type_call ?_⟩
  rw [Around.under_plain (weight_type_call_type "set" [.str x t] []) rfl]
  repeat (any_goals (first | assumption | wp_step))
  refine codeAny_mono (code_set_led1 (.str x t) (E := E) (Q₁ := fun v st => v = .ref s.heap.objs.size ∧ st = { s with heap := s.heap.push (freshSet w) }) ⟨rfl, rfl⟩) fun r st hr => ?_
  rcases r with e | fl
  · exact hr
  rcases fl with _ | _ | _ | v
  any_goals exact hr.elim
  obtain ⟨rfl, rfl⟩ := hr
  have o1 : (s.heap.push (freshSet w)).get? s.heap.objs.size = some (freshSet w) := Heap.get?_push_size _ rfl
  have ty : Shared.TypeIs { s with heap := s.heap.push (freshSet w) } (.ref s.heap.objs.size) "set" := ⟨_, o1, rfl⟩
  have i1 := PySem.F.called_set.init.lookup
  have i2 := PySem.F.called_set.init.bind (.ref s.heap.objs.size)
  repeat (any_goals (first | assumption | wp_step))
  refine codeAny_mono (codeAny_call_builtin (R := wants (fun r st => r = .none ∧ ∃ h' tk c, st = { s with heap := h', toks := tk } ∧ SetG (strKind P w) h' s.heap.objs.size (fun j => decide (j ∈ sgn x)) c ∧ c ≤ x.cps.size ∧ (∀ b o, s.heap.get? b = some o → h'.get? b = some o)) E) PySem.F.called_set.init.plain PySem.F.entry_set_init (check_set_init_1 ty ?_)) fun r st hr => ?_
  · have n1 : (Value.type "str" == Value.type "dict") = false := by decide
    have n2 : isSubtype (.type "str") (.type "set") = pure false := by rw [isSubtype_type]; kernel_rfl
    have n3 : isSubtype (.type "str") (.type "frozenset") = pure false := by rw [isSubtype_type]; kernel_rfl
    unfold Builtin.«set.__init__» noKeywords Builtin.Frozenset.updateFrom
    generalize hp : pyIter = PI
    wp_walk
    subst hp
    refine wpAny_pyIter_str fun ob St Wk hst => ?_
    refine wpAny_bind (wpAny_runValue ?_)
    have hh3 : A.in1.in1.in1.handled = none := by simp [hh]
    have z1 : (s.heap.push (freshSet w)).objs.size = s.heap.objs.size + 1 := Heap.size_push ..
    refine setG_all (kd := strKind P w) (Wk _ hh3).toS s.heap.objs.size (by rw [z1]; simp) (sgn x) (by simp) hb (fun i v pv => ?_) (x.cps.size - 0) 0 _ rfl (Nat.zero_le _) hst ⟨0, Nat.le_refl 0, (setG_nil (Heap.get?_push_of_some _ o1)).re (fun _ => by simp) rfl⟩ fun st c mv hc g => ?_
    · obtain ⟨cd, u, e1, rfl⟩ := pv
      have e2 : x.cps.toList[i]? = some cd := by simpa using e1
      exact ⟨⟨#[cd]⟩, by rw [List.getElem?_map, e2]; rfl, strKind_is _ _ _ _, rfl⟩
    · obtain ⟨h', g2, d2, tk, os2⟩ := st
      obtain rfl : g2 = s.gens := mv.gens
      obtain rfl : d2 = s.drawn := mv.drawn
      obtain rfl : os2 = s.os := mv.os
      show wpAny _ _ _ _ _ _
      refine wpAny_pure ?_
      show wpAny _ _ (PySem.ret Value.none) _ _ _
      refine wpAny_pure ⟨rfl, h', tk, c, rfl, g, hc, fun b o e => ?_⟩
      have lb : b < s.heap.objs.size := Heap.lt_size e
      refine mv.heap b o (fun z => ?_) (Heap.get?_push_of_some _ (Heap.get?_push_of_some _ e))
      rw [z1] at z
      rcases List.mem_cons.mp z with z | z
      · exact absurd lb (by rw [z]; exact Nat.lt_irrefl _)
      · exact absurd lb (by rw [List.mem_singleton.mp z]; exact Nat.not_lt_of_le (Nat.le_succ _))
  · rcases r with e | fl
    · exact hr
    rcases fl with _ | _ | _ | v
    any_goals exact hr.elim
    obtain ⟨rfl, h', tk, c, rfl, g, hc, kp⟩ := hr
    repeat (any_goals (first | assumption | wp_step))
    exact h _ _ _ g hc kp
/-- what sorted() leaves of texts: at p, behind a heap hm in which nothing stood there -/
structure Srt (h h' : Heap) (p : Addr) (ys : List Str) : Prop where
  mid : ∃ hm : Heap, (∀ b o, h.get? b = some o → hm.get? b = some o) ∧ (∀ b o, hm.get? b = some o → h'.get? b = some o) ∧ hm.objs.size ≤ p
  at_ : ∃ (out : Array Value) (c : Nat), h'.get? p = some (PyProof.Rows.seqObj "list" out c) ∧ PyProof.Rows.StrsAre out.toList ys
  ord : sortedS ys = true
theorem sort_tail {s1 : Shared} {vs : List Value} {ss : List Str} {kw : List (Str × Value)} {Q : Value → Shared → Prop} (ek : kw = []) (kp : ∀ b o, s.heap.get? b = some o → s1.heap.get? b = some o) (hS : PyProof.Rows.StrsAre vs ss) (hL : vs.length ≤ sizeLine)
    (hQ : ∀ h' p ys, Srt s.heap h' p ys → ys.Perm ss → Q (.ref p) { s1 with heap := h' }) :
    wpAny (model P w) A (do let l ← newList vs; let _ ← holding [l] (call (.builtin "list.sort") [l] kw); PySem.ret l) (fun fin st => ∃ v, fin = Fin.done (Flow.ret v) ∧ Q v st) E s1 := by
  subst ek
  refine wpAny_bind (wpAny_newList ?_ hL)
  have o1 : (s1.heap.push (PyProof.Rows.seqObj "list" vs.toArray 0)).get? s1.heap.objs.size = some (PyProof.Rows.seqObj "list" vs.toArray 0) := Heap.get?_push_size _ rfl
  refine wpAny_bind (wpAny_holding (wpAny_call_entry PyProof.Rows.slot_list_sort ⟨_, o1, rfl⟩ PyProof.Rows.entry_list_sort (PyProof.Rows.list_sort_treeKAny PyProof.Rows.strKind_oneLt o1 hS.keysOf (fun v1 v2 r e => PyProof.Rows.keyKind_strs (by rw [← e]; exact hS)) hL fun st a1 a2 => ⟨_, rfl, ?_⟩) (PyProof.Rows.args_list_sort _)))
  obtain ⟨ys, z1, z2, z3⟩ := PyProof.Rows.sorted_out_str hS a1 a2
  obtain ⟨c, hc⟩ := PyProof.Rows.sortedHeap_at (vs := vs) (out := (arrOf st).map (·.2)) o1
  refine wpAny_pure ⟨_, rfl, hQ _ s1.heap.objs.size ys ⟨⟨s1.heap, kp, fun b o e => ?_, Nat.le_refl _⟩, ⟨_, c, hc, z1⟩, z3⟩ z2⟩
  have lt := Heap.lt_size e
  show (PyProof.Rows.sortedHeap (s1.heap.push (PyProof.Rows.seqObj "list" vs.toArray 0)) s1.heap.objs.size vs _).get? b = some o
  rw [PyProof.Rows.sortedHeap_old (Nat.ne_of_lt lt) (by rw [PyProof.Rows.size_push']; exact Nat.lt_succ_of_lt lt)]
  exact Heap.get?_push_of_some _ e
theorem strs_sgn {x : Str} {acc : Array Value} (it : ItemsOf (SignAt x) acc x.cps.size) : PyProof.Rows.StrsAre acc.toList (sgn x) := by
  have gen : ∀ (vs : List Value) (ys : List Str), vs.length = ys.length → (∀ (i : Nat) (v : Value) (y : Str), vs[i]? = some v → ys[i]? = some y → ∃ t, v = .str y t) → PyProof.Rows.StrsAre vs ys := fun vs => by
    induction vs with
    | nil =>
      intro ys hl _
      cases ys with
      | nil => exact .nil
      | cons _ _ => cases hl
    | cons v vs ih =>
      intro ys hl h
      cases ys with
      | nil => cases hl
      | cons y ys =>
        obtain ⟨t, rfl⟩ := h 0 v y rfl rfl
        exact .cons y t (ih ys (by simpa using hl) fun i a b h1 h2 => h (i + 1) a b h1 h2)
  refine gen _ _ (by rw [Array.length_toList, it.1]; simp) fun i v y h1 h2 => ?_
  obtain ⟨c, u, e1, e2⟩ := it.2 i v (by rw [← Array.getElem?_toList]; exact h1)
  rw [List.getElem?_map] at h2
  have e3 : x.cps.toList[i]? = some c := by simpa using e1
  rw [e3] at h2
  cases h2
  exact ⟨u, e2⟩
theorem sorted_txt {x : Str} {t : Tok} {Q : Value → Shared → Prop} (hh : A.handled = none) (hz : x.cps.size ≤ sizeLine) (hQ : ∀ h' p ys tk, Srt s.heap h' p ys → ys.Perm (sgn x) → Q (.ref p) { s with heap := h', toks := tk }) : wpAny (model P w) A (call (.builtin "sorted") [.str x t]) Q E s := by
  refine Calls.call_function_entry PyProof.Rows.kind_sorted PyProof.Rows.plain_sorted PyProof.Rows.entry_sorted (PyProof.Rows.args_sorted1 _) ?_
  unfold Builtin.«sorted»
  refine wpAny_bind (m := checkCount "sorted" 1 1 _) (wpAny_pure ?_)
  refine wpAny_bind (wpAny_collect_str (A := A.in1) hh x t (fun s1 acc k1 g1 d1 o1 it => ?_) hz)
  refine sort_tail (s := s) rfl k1 (strs_sgn it) (by rw [Array.length_toList, it.1]; exact hz) fun h' p ys sr pm => ?_
  obtain ⟨h1, g2, d2, tk, os2⟩ := s1
  obtain rfl : g2 = s.gens := g1
  obtain rfl : d2 = s.drawn := d1
  obtain rfl : os2 = s.os := o1
  exact hQ h' p ys tk sr pm
def strIn (e : Ent) : Str := match e.2 with
  | .str y _ => y
  | _ => Str.empty
theorem sorted_setS {a : Addr} {S : Str → Bool} {n : Nat} {Q : Value → Shared → Prop} (G : SetG (strKind P w) s.heap a S n) (hh : A.handled = none)
    (hQ : ∀ h' p ys tk dr, Srt s.heap h' p ys → ys.Nodup → (∀ k, k ∈ ys ↔ S k = true) → ys.length ≤ sizeLine → Q (.ref p) { s with heap := h', toks := tk, drawn := dr }) : wpAny (model P w) A (call (.builtin "sorted") [.ref a]) Q E s := by
  obtain ⟨o, es, ep, t, ho, hex, hd, g1, g2, g3, hn, hb, hf, g4, g5⟩ := G.ex
  subst hn
  have is : ∀ e ∈ es.toList, ∃ u, e.2 = .str (strIn e) u := fun e he => by
    obtain ⟨⟨k, hk, _⟩, _⟩ := g1 e he
    cases ev : e.2 with
    | str y u => exact ⟨u, by unfold strIn; rw [ev]⟩
    | _ => rw [ev] at hk; cases hk
  have isk : ∀ e ∈ es.toList, ∀ k, (strKind P w).is k e.2 = true ↔ strIn e = k := fun e he k => by
    obtain ⟨u, eu⟩ := is e he
    rw [eu]
    constructor
    · intro h; exact (strKind P w).inj _ _ _ (strKind_is P w _ u) h
    · intro h; subst h; exact strKind_is P w _ u
  refine Calls.call_function_entry PyProof.Rows.kind_sorted PyProof.Rows.plain_sorted PyProof.Rows.entry_sorted (PyProof.Rows.args_sorted1 _) ?_
  unfold Builtin.«sorted»
  refine wpAny_bind (m := checkCount "sorted" 1 1 _) (wpAny_pure ?_)
  refine wpAny_bind (L2.collect_set (A := A.in1) hh ⟨o, ho, hex.1, hd⟩ hf hb g4 g5 fun s1 vs k1 hz1 gg1 oo1 pm => ?_)
  have hS : PyProof.Rows.StrsAre vs (vs.map fun v => strIn (0, v)) := by
    have al : ∀ v ∈ vs, ∃ u, v = .str (strIn (0, v)) u := fun v hv => by
      obtain ⟨e, he, rfl⟩ := List.mem_map.mp (pm.mem_iff.mp hv)
      exact is e he
    clear pm
    induction vs with
    | nil => exact .nil
    | cons v vs ih =>
      obtain ⟨u, eu⟩ := al v (by simp)
      rw [List.map_cons]
      rw [eu] at *
      exact .cons _ u (ih fun z hz => al z (by simp [hz]))
  have pk : (vs.map fun v => strIn (0, v)).Perm (es.toList.map strIn) := by
    have q := pm.map fun v => strIn (0, v)
    rw [List.map_map] at q
    exact q
  refine sort_tail (s := s) rfl k1 hS (by rw [pm.length_eq, List.length_map, Array.length_toList]; exact fits_of_scanBound hb) fun h' p ys sr pm2 => ?_
  have pm3 := pm2.trans pk
  obtain ⟨h1, g2', d2, tk, os2⟩ := s1
  obtain rfl : g2' = s.gens := gg1
  obtain rfl : os2 = s.os := oo1
  refine hQ h' p ys tk d2 sr (pm3.nodup_iff.mpr ?_) (fun k => ?_) (by rw [pm3.length_eq, List.length_map, Array.length_toList]; exact fits_of_scanBound hb)
  · refine List.pairwise_map.mpr (List.Pairwise.imp_of_mem (fun {e f} he hf2 q z => ?_) g2)
    have := q (strIn e) ((isk e he _).mpr rfl)
    rw [(isk f hf2 _).mpr z.symm] at this
    cases this
  · rw [pm3.mem_iff, g3 k, List.mem_map]
    constructor
    · rintro ⟨e, he, z⟩; exact ⟨e, he, (isk e he k).mpr z⟩
    · rintro ⟨e, he, z⟩; exact ⟨e, he, (isk e he k).mp z⟩
end
section
variable {X : Cx}
theorem laid_srt {pins : List (Addr × Obj)} {σ : L2.St} {H : Hp} {s : Shared} {h' : Heap} {p : Addr} {ys : List Str} {tk : Nat} (I : L2.Inv X pins σ H s) (sr : Srt s.heap h' p ys) (hz : ys.length ≤ sizeLine) :
    H p = none ∧ L2.Inv X pins σ (upd H p (.lst (ys.map V.str))) { s with heap := h', toks := tk } := by
  obtain ⟨hm, k1, k2, le⟩ := sr.mid
  obtain ⟨out, c, e1, e2⟩ := sr.at_
  have I1 : L2.Inv X pins σ H { s with heap := hm, toks := tk } := I.kept k1
  exact ⟨I1.hok.fresh le, I1.laid (t' := tk) k2 le ⟨by rw [List.length_map]; exact hz, out.toList, c, vals_of_strs e2, e1⟩⟩
def rTxtSort : List V → Hp → VK → Prop := fun vs H Q => ∃ x : Str, vs = [.str x] ∧ x.cps.size ≤ sizeLine ∧ ∀ ys p, ys.Perm (sgn x) → sortedS ys = true → H p = none → Q (.ref p) (upd H p (.lst (ys.map V.str)))
theorem cr_sortedTxt (hc : X.calm = true) : CallR X (.builtin "sorted") rTxtSort := by
  intro pins s σ H vs us Q I r h
  obtain ⟨x, rfl, hz, q⟩ := h
  obtain ⟨u, rfl, t, rfl⟩ := vals1 r
  refine sorted_txt (I.ok.hd hc) hz fun h' p ys tk sr pm => ?_
  obtain ⟨n, J⟩ := laid_srt (tk := tk) I sr (by rw [pm.length_eq, List.length_map, Array.length_toList]; exact hz)
  exact ⟨.ref p, _, J, rfl, q ys p pm sr.ord n⟩
def rTxtList (K : Bool) : List V → Hp → VK → Prop := fun vs H Q => ∃ x : Str, vs = [.str x] ∧ x.cps.size ≤ sizeLine ∧ ∀ p, H p = none → Q (.ref p) (upd H p (if K then .lst ((sgn x).map V.str) else .tup ((sgn x).map V.str)))
theorem cr_listTxt (hc : X.calm = true) : CallR X (.type "list") (rTxtList true) := by
  intro pins s σ H vs us Q I r h
  obtain ⟨x, rfl, hz, q⟩ := h
  obtain ⟨u, rfl, t, rfl⟩ := vals1 r
  refine call_list_str (hn := hz) (I.ok.hd hc) x t fun h' tk acc c hk hS it => ?_
  refine ⟨.ref s.heap.objs.size, upd H s.heap.objs.size (.lst ((sgn x).map V.str)), I.laid (t' := tk) hk (Nat.le_refl _) ⟨by simpa using hz, acc.toList, c, vals_of_strs (strs_sgn it), hS⟩, rfl, q _ (I.hok.fresh (Nat.le_refl _))⟩
theorem cr_tupleTxt (hc : X.calm = true) : CallR X (.type "tuple") (rTxtList false) := by
  intro pins s σ H vs us Q I r h
  obtain ⟨x, rfl, hz, q⟩ := h
  obtain ⟨u, rfl, t, rfl⟩ := vals1 r
  refine call_tuple_str (hsz := hz) (I.ok.hd hc) x t fun h' tk acc hk it => ?_
  have I1 : L2.Inv X pins σ H { s with heap := h', toks := tk } := I.kept hk
  have o1 : (h'.push { cls := .type "tuple", data := .seq acc }).get? h'.objs.size = some { cls := .type "tuple", data := .seq acc } := Heap.get?_push_size _ rfl
  refine ⟨.ref h'.objs.size, upd H h'.objs.size (.tup ((sgn x).map V.str)), I1.laid (t' := tk) (fun b o e => Heap.get?_push_of_some _ e) (Nat.le_refl _) ⟨by simpa using hz, acc.toList, vals_of_strs (strs_sgn it), ⟨_, o1, rfl, _, rfl⟩⟩, rfl, q _ (I1.hok.fresh (Nat.le_refl _))⟩
/-- a tracked set of texts -/
def SetX (P : Program) (w : World) (a : Addr) (S : Str → Bool) (n : Nat) : HO := .ext fun h => SetG (strKind P w) h a S n
def rTxtSet (P : Program) (w : World) : List V → Hp → VK → Prop := fun vs H Q => ∃ x : Str, vs = [.str x] ∧ x.cps.size + 1 < scanBound ∧ ∀ p c, H p = none → Q (.ref p) (upd H p (SetX P w p (fun j => decide (j ∈ sgn x)) c))
theorem cr_setTxt (hc : X.calm = true) : CallR X (.type "set") (rTxtSet X.prog X.w) := by
  intro pins s σ H vs us Q I r h
  obtain ⟨x, rfl, hz, q⟩ := h
  obtain ⟨u, rfl, t, rfl⟩ := vals1 r
  refine call_set_txt (I.ok.hd hc) hz fun h' tk c g _ kp => ?_
  obtain ⟨o, _, _, _, ho, _⟩ := g.ex
  exact ⟨.ref s.heap.objs.size, upd H s.heap.objs.size (SetX X.prog X.w s.heap.objs.size (fun j => decide (j ∈ sgn x)) c), I.laid (t' := tk) kp (Nat.le_refl _) ⟨g, ⟨o, ho⟩, fun h1 h2 p k => SetG.keep p k⟩, rfl, q _ c (I.hok.fresh (Nat.le_refl _))⟩
def rSetSort (P : Program) (w : World) : List V → Hp → VK → Prop := fun vs H Q => ∃ (a : Addr) (S : Str → Bool) (n : Nat), vs = [.ref a] ∧ H a = some (SetX P w a S n) ∧ ∀ ys p, sortedS ys = true → ys.Nodup → (∀ k, k ∈ ys ↔ S k = true) → ys.length ≤ sizeLine → H p = none → Q (.ref p) (upd H p (.lst (ys.map V.str)))
theorem cr_sortedSetTxt (hc : X.calm = true) : CallR X (.builtin "sorted") (rSetSort X.prog X.w) := by
  intro pins s σ H vs us Q I r h
  obtain ⟨a, S, n, rfl, ha, q⟩ := h
  rw [Vals.ref1 r]
  have g : SetG (strKind X.prog X.w) s.heap a S n := (I.hok a _ ha).1
  refine sorted_setS g (I.ok.hd hc) fun h' p ys tk dr sr nd hm hz => ?_
  have I0 : L2.Inv X pins σ H { s with heap := s.heap, gens := s.gens, drawn := dr, toks := s.toks } := I.call (ch := []) (Un.kept fun _ _ e => e) (I.hok.kept fun _ _ e => e) I.bare (fun _ z => nomatch z)
  obtain ⟨n1, J⟩ := laid_srt (tk := tk) I0 sr hz
  exact ⟨.ref p, _, J, rfl, q ys p sr.ord nd hm hz n1⟩
end
end Dx

set_option maxRecDepth 100000
set_option maxHeartbeats 4000000
/-! Dx6a: what is walked; the built-in functions and methods by values. -/
namespace Dx
open PySem PySem.Spec PyProof.Rows L2
section
variable {T : Tab} {X : Cx} {Xw : XW} {g : G} {m : List Addr} {L : Hh} {H : Hp} {σ : L2.St}
/-! ### items -/
theorem Sim.items (S : Sim g m L H) {w : W} {v : V} {ws : List W} (r : RelW g.K m H w v) (e : itemsOf L w = some ws) : ∃ a xs, v = .ref a ∧ (SqL g.K H a xs ∨ H a = some (.tup xs)) ∧ RelWs g.K m H ws xs := by
  cases r with
  | @tup a xs ws' h hr =>
    simp only [itemsOf, Option.some.injEq] at e
    subst e
    exact ⟨a, xs, rfl, .inr h, hr⟩
  | @ref l a h =>
    simp only [itemsOf] at e
    split at e
    · rename_i zs ez
      cases e
      obtain ⟨xs, h1, h2⟩ := S.seq h (.inl ez)
      exact ⟨a, xs, rfl, .inl h1, h2⟩
    · rename_i zs ez
      cases e
      obtain ⟨xs, h1, h2⟩ := S.seq h (.inr ez)
      exact ⟨a, xs, rfl, .inl h1, h2⟩
    · cases e
  | _ => cases e
theorem Sim.itemsL (S : Sim g m L H) {l : Nat} {a : Addr} {ws : List W} (h : m[l]? = some a) (e : itemsOf L (.ref l) = some ws) : ∃ xs, SqL g.K H a xs ∧ RelWs g.K m H ws xs := by
  simp only [itemsOf] at e
  split at e
  · rename_i zs ez
    cases e
    exact S.seq h (.inl ez)
  · rename_i zs ez
    cases e
    exact S.seq h (.inr ez)
  · cases e
theorem rel_bl {bs : List Bool} {ws : List W} (e : ws.mapM blOf = some bs) {xs : List V} (r : RelWs g.K m H ws xs) : xs = bs.map V.bl := by
  have p := mapM_some e
  clear e
  induction p generalizing xs with
  | nil => cases r; rfl
  | @cons w b ws bs q p ih =>
    cases r with
    | cons h hr =>
      cases w <;> simp [blOf] at q
      subst q
      cases h
      rw [List.map_cons, ← ih hr]
theorem rel_int {bs : List Int} {ws : List W} (e : ws.mapM intOf = some bs) {xs : List V} (r : RelWs g.K m H ws xs) : xs = bs.map V.int := by
  have p := mapM_some e
  clear e
  induction p generalizing xs with
  | nil => cases r; rfl
  | @cons w b ws bs q p ih =>
    cases r with
    | cons h hr =>
      cases w <;> simp [intOf] at q
      subst q
      cases h
      rw [List.map_cons, ← ih hr]
def tx (x : Txt) : Str := ⟨x.toArray⟩
theorem rel_txt {bs : List Txt} {ws : List W} (e : ws.mapM txtOf = some bs) {xs : List V} (r : RelWs g.K m H ws xs) : xs = (bs.map tx).map V.str := by
  have p := mapM_some e
  clear e
  induction p generalizing xs with
  | nil => cases r; rfl
  | @cons w b ws bs q p ih =>
    cases r with
    | cons h hr =>
      cases w <;> simp [txtOf] at q
      subst q
      cases h
      rw [List.map_cons, List.map_cons, ← ih hr]
      rfl
theorem rels_int (is : List Int) : RelWs g.K m H (is.map W.int) (is.map V.int) := by
  induction is with
  | nil => exact .nil
  | cons i is ih => exact .cons (.int i) ih
theorem rels_txt (ts : List Txt) : RelWs g.K m H (ts.map W.str) ((ts.map tx).map V.str) := by
  induction ts with
  | nil => exact .nil
  | cons i is ih => exact .cons (.str i) ih

/-! ### what is walked -/
def SrcOk (g : G) (m : List Addr) (H : Hp) (s : Src) (J : L2.It) : Prop :=
  ∀ m' L' H', Ex0 m H m' H' → Sim g m' L' H' → ∀ i, (∀ w, srcAt L' i s = some (some w) → J.go i H' ∧ ∀ x H'', J.yld i H' x H'' → Ext m' H' m' H'' ∧ Sim g m' L' H'' ∧ RelW g.K m' H'' w x) ∧ (srcAt L' i s = some none → J.stop i H')
theorem src_seq {l : Nat} {a : Addr} (h : m[l]? = some a) : SrcOk g m H (.seq l) (Itl g.K a) := by
  intro m' L' H' e S i
  have h' := e.at_ _ _ h
  refine ⟨fun w hw => ?_, fun hw => ?_⟩
  · simp only [srcAt, Option.map_eq_some_iff] at hw
    obtain ⟨ws, e1, e2⟩ := hw
    obtain ⟨xs, h1, r1⟩ := S.itemsL h' e1
    obtain ⟨v, e3, r3⟩ := r1.get e2
    refine ⟨⟨xs, v, h1, e3⟩, fun x H'' y => ?_⟩
    obtain ⟨rfl, y⟩ := y
    have := y xs h1
    rw [e3] at this
    cases this
    exact ⟨Ext.refl _ _, S, r3⟩
  · simp only [srcAt, Option.map_eq_some_iff] at hw
    obtain ⟨ws, e1, e2⟩ := hw
    obtain ⟨xs, h1, r1⟩ := S.itemsL h' e1
    refine ⟨xs, h1, ?_⟩
    rw [← r1.length]
    exact List.getElem?_eq_none_iff.mp e2
theorem src_tup {a : Addr} {ws : List W} {xs : List V} (h : SqT g.K H a xs) (r : RelWs g.K m H ws xs) : SrcOk g m H (.vals ws) (Itt g.K a) := by
  intro m' L' H' e S i
  have h1 := e.sqT h
  have r1 := r.mono0 e
  refine ⟨fun w hw => ?_, fun hw => ?_⟩
  · simp only [srcAt, Option.some.injEq] at hw
    obtain ⟨v, e3, r3⟩ := r1.get hw
    refine ⟨⟨xs, v, h1, e3⟩, fun x H'' y => ?_⟩
    obtain ⟨rfl, y⟩ := y
    have := y xs h1
    rw [e3] at this
    cases this
    exact ⟨Ext.refl _ _, S, r3⟩
  · simp only [srcAt, Option.some.injEq] at hw
    refine ⟨xs, h1, ?_⟩
    rw [← r1.length]
    exact List.getElem?_eq_none_iff.mp hw
theorem src_str (x : Txt) : SrcOk g m H (.vals (signs x)) (Its ⟨x.toArray⟩) := by
  intro m' L' H' e S i
  refine ⟨fun w hw => ?_, fun hw => ?_⟩
  · simp only [srcAt, Option.some.injEq, signs, List.getElem?_map, Option.map_eq_some_iff] at hw
    obtain ⟨c, e1, e2⟩ := hw
    subst e2
    obtain ⟨hi, _⟩ := List.getElem?_eq_some_iff.mp e1
    refine ⟨by show i < x.toArray.size; simpa using hi, fun y H'' q => ?_⟩
    obtain ⟨rfl, c', e3, rfl⟩ := q
    have e4 : x[i]? = some c' := by simpa using e3
    rw [e1] at e4
    cases e4
    exact ⟨Ext.refl _ _, S, .str [c]⟩
  · simp only [srcAt, Option.some.injEq, signs, List.getElem?_map, Option.map_eq_none_iff] at hw
    show x.toArray.size ≤ i
    simpa using List.getElem?_eq_none_iff.mp hw
theorem src_rng (lo : Int) (n : Nat) : SrcOk g m H (.rng lo n) (Itr lo n) := by
  intro m' L' H' e S i
  refine ⟨fun w hw => ?_, fun hw => ?_⟩
  · simp only [srcAt, Option.some.injEq] at hw
    split at hw
    · rename_i hi
      cases hw
      refine ⟨hi, fun x H'' y => ?_⟩
      obtain ⟨rfl, rfl⟩ := y
      exact ⟨Ext.refl _ _, S, .int _⟩
    · cases hw
  · simp only [srcAt, Option.some.injEq] at hw
    split at hw
    · cases hw
    · rename_i hi
      exact Nat.le_of_not_lt hi
theorem src_enum {l : Nat} {a : Addr} (h : m[l]? = some a) : SrcOk g m H (.enum l) (Ite g.K a) := by
  intro m' L' H' e S i
  have h' := e.at_ _ _ h
  refine ⟨fun w hw => ?_, fun hw => ?_⟩
  · simp only [srcAt, Option.map_eq_some_iff] at hw
    obtain ⟨ws, e1, e2⟩ := hw
    obtain ⟨z, e2, e5⟩ := e2
    subst e5
    obtain ⟨xs, h1, r1⟩ := S.itemsL h' e1
    obtain ⟨v, e3, r3⟩ := r1.get e2
    refine ⟨⟨xs, v, h1, e3⟩, fun x H'' y => ?_⟩
    obtain ⟨p, y, rfl, hp, rfl, hy⟩ := y
    have := hy xs h1
    rw [e3] at this
    cases this
    obtain ⟨x1, S1⟩ := S.free (u := .tup [.int (i : Nat), v]) hp
    exact ⟨x1, S1, .tup upd_same (.cons (.int _) (.cons (r3.mono x1) .nil))⟩
  · simp only [srcAt, Option.map_eq_some_iff, Option.map_eq_none_iff] at hw
    obtain ⟨ws, e1, e2⟩ := hw
    obtain ⟨xs, h1, r1⟩ := S.itemsL h' e1
    refine ⟨xs, h1, ?_⟩
    rw [← r1.length]
    exact List.getElem?_eq_none_iff.mp e2
theorem src_zipL {l k : Nat} {a b : Addr} (h : m[l]? = some a) (hk : m[k]? = some b) : SrcOk g m H (.zipL l k) (Itz g.K a b) := by
  intro m' L' H' e S i
  have h' := e.at_ _ _ h
  have hk' := e.at_ _ _ hk
  refine ⟨fun w hw => ?_, fun hw => ?_⟩
  · simp only [srcAt] at hw
    split at hw
    · rename_i ws zs e1 e2
      simp only [Option.some.injEq] at hw
      split at hw
      · rename_i x y e3 e4
        cases hw
        obtain ⟨xs, h1, r1⟩ := S.itemsL h' e1
        obtain ⟨ys, h2, r2⟩ := S.itemsL hk' e2
        obtain ⟨v, e5, r5⟩ := r1.get e3
        obtain ⟨u, e6, r6⟩ := r2.get e4
        refine ⟨⟨xs, ys, v, u, h1, h2, e5, e6⟩, fun z H'' q => ?_⟩
        obtain ⟨p, v', u', rfl, hp, rfl, q1, q2⟩ := q
        have z1 := q1 xs h1
        rw [e5] at z1
        cases z1
        have z2 := q2 ys h2
        rw [e6] at z2
        cases z2
        obtain ⟨x1, S1⟩ := S.free (u := .tup [v, u]) hp
        exact ⟨x1, S1, .tup upd_same (.cons (r5.mono x1) (.cons (r6.mono x1) .nil))⟩
      · cases hw
    · cases hw
  · simp only [srcAt] at hw
    split at hw
    · rename_i ws zs e1 e2
      obtain ⟨xs, h1, r1⟩ := S.itemsL h' e1
      obtain ⟨ys, h2, r2⟩ := S.itemsL hk' e2
      refine ⟨xs, ys, h1, h2, ?_⟩
      rw [← r1.length, ← r2.length]
      simp only [Option.some.injEq] at hw
      split at hw
      · cases hw
      · rename_i n
        cases e3 : ws[i]? with
        | none => exact .inl (List.getElem?_eq_none_iff.mp e3)
        | some x =>
          cases e4 : zs[i]? with
          | none => exact .inr (List.getElem?_eq_none_iff.mp e4)
          | some y => exact absurd e4 (n x y e3)
    · cases hw
theorem src_zipT {a b : Addr} {ws zs : List W} {xs ys : List V} (h : SqT g.K H a xs) (hk : SqT g.K H b ys) (r : RelWs g.K m H ws xs) (rk : RelWs g.K m H zs ys) : SrcOk g m H (.zipT ws zs) (RZ.ItzT g.K a b) := by
  intro m' L' H' e S i
  have h1 := e.sqT h
  have h2 := e.sqT hk
  have r1 := r.mono0 e
  have r2 := rk.mono0 e
  refine ⟨fun w hw => ?_, fun hw => ?_⟩
  · simp only [srcAt, Option.some.injEq] at hw
    split at hw
    · rename_i x y e3 e4
      cases hw
      obtain ⟨v, e5, r5⟩ := r1.get e3
      obtain ⟨u, e6, r6⟩ := r2.get e4
      refine ⟨⟨xs, ys, v, u, h1, h2, e5, e6⟩, fun z H'' q => ?_⟩
      obtain ⟨p, v', u', rfl, hp, rfl, q1, q2⟩ := q
      have z1 := q1 xs h1
      rw [e5] at z1
      cases z1
      have z2 := q2 ys h2
      rw [e6] at z2
      cases z2
      obtain ⟨x1, S1⟩ := S.free (u := .tup [v, u]) hp
      exact ⟨x1, S1, .tup upd_same (.cons (r5.mono x1) (.cons (r6.mono x1) .nil))⟩
    · cases hw
  · simp only [srcAt, Option.some.injEq] at hw
    refine ⟨xs, ys, h1, h2, ?_⟩
    rw [← r1.length, ← r2.length]
    split at hw
    · cases hw
    · rename_i n
      cases e3 : ws[i]? with
      | none => exact .inl (List.getElem?_eq_none_iff.mp e3)
      | some x =>
        cases e4 : zs[i]? with
        | none => exact .inr (List.getElem?_eq_none_iff.mp e4)
        | some y => exact absurd e4 (n x y e3)

/-! ### sorting -/
theorem insI_perm (x : Int) (xs : List Int) : (insI x xs).Perm (x :: xs) := by
  induction xs with
  | nil => exact List.Perm.refl _
  | cons y ys ih =>
    simp only [insI]
    split
    · exact List.Perm.refl _
    · exact (List.Perm.cons y ih).trans (List.Perm.swap x y ys)
theorem sortI_perm (xs : List Int) : (sortI xs).Perm xs := by
  induction xs with
  | nil => exact List.Perm.refl _
  | cons x xs ih => exact (insI_perm x _).trans (List.Perm.cons x ih)
theorem insI_sorted {x : Int} {xs : List Int} (h : xs.Pairwise (· ≤ ·)) : (insI x xs).Pairwise (· ≤ ·) := by
  induction xs with
  | nil => simp [insI]
  | cons y ys ih =>
    have h0 := h
    rw [List.pairwise_cons] at h
    simp only [insI]
    split
    · rename_i c
      have c := of_decide_eq_true c
      refine List.pairwise_cons.mpr ⟨fun z hz => ?_, h0⟩
      rcases List.mem_cons.mp hz with e | e
      · rw [e]; exact c
      · exact Int.le_trans c (h.1 z e)
    · rename_i c
      have c : ¬ x ≤ y := fun q => c (decide_eq_true q)
      refine List.pairwise_cons.mpr ⟨fun z hz => ?_, ih h.2⟩
      rcases List.mem_cons.mp ((insI_perm x ys).mem_iff.mp hz) with e | e
      · rw [e]; omega
      · exact h.1 z e
theorem sortI_sorted (xs : List Int) : (sortI xs).Pairwise (· ≤ ·) := by
  induction xs with
  | nil => exact .nil
  | cons x xs ih => exact insI_sorted ih
theorem uniq_of {α : Type} {r : α → α → Prop} (anti : ∀ a b, r a b → r b a → a = b) : ∀ {xs ys : List α}, xs.Perm ys → xs.Pairwise r → ys.Pairwise r → xs = ys
  | [], ys, p, _, _ => (List.nil_perm.mp p).symm
  | x :: xs, [], p, _, _ => by simpa using p.length_eq
  | x :: xs, y :: ys, p, hx, hy => by
    rw [List.pairwise_cons] at hx hy
    have e : x = y := by
      have m1 : x ∈ y :: ys := p.mem_iff.mp (by simp)
      have m2 : y ∈ x :: xs := p.mem_iff.mpr (by simp)
      rcases List.mem_cons.mp m1 with e | e
      · exact e
      · rcases List.mem_cons.mp m2 with e2 | e2
        · exact e2.symm
        · exact anti _ _ (hx.1 _ e2) (hy.1 _ e)
    subst e
    rw [uniq_of anti (List.Perm.cons_inv p) hx.2 hy.2]
theorem sortI_eq {xs ys : List Int} (p : ys.Perm xs) (h : ys.Pairwise (· ≤ ·)) : ys = sortI xs :=
  uniq_of (fun _ _ => Int.le_antisymm) (p.trans (sortI_perm xs).symm) h (sortI_sorted xs)
theorem lt_irr : ∀ x : Txt, ltCps x x = false
  | [] => rfl
  | a :: x => by simp [ltCps, lt_irr x]
theorem lt_tri : ∀ x y : Txt, ltCps x y = false → ltCps y x = false → x = y
  | [], [], _, _ => rfl
  | [], _ :: _, h, _ => by simp [ltCps] at h
  | _ :: _, [], _, h => by simp [ltCps] at h
  | a :: x, b :: y, h1, h2 => by
    simp only [ltCps, Bool.or_eq_false_iff, decide_eq_false_iff_not, Bool.and_eq_false_iff, beq_eq_false_iff_ne] at h1 h2
    have e : a = b := by omega
    subst e
    rw [lt_tri x y (by simpa using h1.2) (by simpa using h2.2)]
theorem lt_tr : ∀ x y z : Txt, ltCps x y = true → ltCps y z = true → ltCps x z = true
  | [], y, [], _, h => by
    cases y <;> simp [ltCps] at h
  | [], _, _ :: _, _, _ => rfl
  | _ :: _, [], _, h, _ => by simp [ltCps] at h
  | _ :: _, _ :: _, [], _, h => by simp [ltCps] at h
  | a :: x, b :: y, c :: z, h1, h2 => by
    simp only [ltCps, Bool.or_eq_true, decide_eq_true_eq, Bool.and_eq_true, beq_iff_eq] at h1 h2 ⊢
    rcases h1 with h1 | ⟨e1, h1⟩
    · rcases h2 with h2 | ⟨e2, h2⟩
      · left; omega
      · left; omega
    · rcases h2 with h2 | ⟨e2, h2⟩
      · left; omega
      · right; exact ⟨by omega, lt_tr x y z h1 h2⟩
theorem le_tr {x y z : Txt} (h1 : txtLe x y = true) (h2 : txtLe y z = true) : txtLe x z = true := by
  unfold txtLe at *
  simp only [Bool.not_eq_true'] at *
  cases e : ltCps z x with
  | false => rfl
  | true =>
    exfalso
    cases e2 : ltCps x y with
    | true => have := lt_tr _ _ _ e e2; rw [h2] at this; cases this
    | false =>
      have := lt_tri x y e2 h1
      subst this
      rw [h2] at e; cases e
theorem le_tot (x y : Txt) : txtLe x y = true ∨ txtLe y x = true := by
  unfold txtLe
  cases e : ltCps x y with
  | false => right; simp
  | true =>
    left
    cases e2 : ltCps y x with
    | false => rfl
    | true => have := lt_tr _ _ _ e e2; rw [lt_irr] at this; cases this
theorem le_anti {x y : Txt} (h1 : txtLe x y = true) (h2 : txtLe y x = true) : x = y := by
  unfold txtLe at *
  exact lt_tri x y (by simpa using h2) (by simpa using h1)
theorem insT_perm (x : Txt) (xs : List Txt) : (insT x xs).Perm (x :: xs) := by
  induction xs with
  | nil => exact List.Perm.refl _
  | cons y ys ih =>
    simp only [insT]
    split
    · exact List.Perm.refl _
    · exact (List.Perm.cons y ih).trans (List.Perm.swap x y ys)
theorem sortT_perm (xs : List Txt) : (sortT xs).Perm xs := by
  induction xs with
  | nil => exact List.Perm.refl _
  | cons x xs ih => exact (insT_perm x _).trans (List.Perm.cons x ih)
theorem insT_sorted {x : Txt} {xs : List Txt} (h : xs.Pairwise (fun a b => txtLe a b = true)) : (insT x xs).Pairwise (fun a b => txtLe a b = true) := by
  induction xs with
  | nil => simp [insT]
  | cons y ys ih =>
    have h0 := h
    rw [List.pairwise_cons] at h
    simp only [insT]
    split
    · rename_i c
      refine List.pairwise_cons.mpr ⟨fun z hz => ?_, h0⟩
      rcases List.mem_cons.mp hz with e | e
      · rw [e]; exact c
      · exact le_tr c (h.1 z e)
    · rename_i c
      refine List.pairwise_cons.mpr ⟨fun z hz => ?_, ih h.2⟩
      rcases List.mem_cons.mp ((insT_perm x ys).mem_iff.mp hz) with e | e
      · rw [e]; exact (le_tot x y).resolve_left c
      · exact h.1 z e
theorem sortT_sorted (xs : List Txt) : (sortT xs).Pairwise (fun a b => txtLe a b = true) := by
  induction xs with
  | nil => exact .nil
  | cons x xs ih => exact insT_sorted ih
theorem rising_chain : ∀ (p : Str) (r : List Str), risingS p r = true → ((p :: r).map (fun z => z.cps.toList)).Pairwise (fun a b => txtLe a b = true)
  | p, [], _ => by simp
  | p, x :: r, h => by
    simp only [risingS, Bool.and_eq_true] at h
    have ih := rising_chain x r h.2
    rw [List.map_cons, List.pairwise_cons]
    refine ⟨fun z hz => ?_, ih⟩
    rw [List.map_cons, List.pairwise_cons] at ih
    rcases List.mem_cons.mp hz with e | e
    · rw [e]; exact h.1
    · exact le_tr h.1 (ih.1 z e)
theorem sortT_eq {xs : List Txt} {ys : List Str} (p : ys.Perm (xs.map tx)) (h : sortedS ys = true) : ys = (sortT xs).map tx := by
  have e1 : ys.map (fun z => z.cps.toList) = sortT xs := by
    refine uniq_of (fun a b => le_anti) ?_ ?_ (sortT_sorted xs)
    · have q := p.map (fun z : Str => z.cps.toList)
      rw [List.map_map] at q
      have e : (fun z : Str => z.cps.toList) ∘ tx = id := by
        funext z
        simp [tx]
      rw [e, List.map_id] at q
      exact q.trans (sortT_perm xs).symm
    · cases ys with
      | nil => exact .nil
      | cons y ys => exact rising_chain y ys h
  rw [← e1, List.map_map]
  have e : tx ∘ (fun z : Str => z.cps.toList) = id := by
    funext z
    simp [tx]
  rw [e, List.map_id]
theorem joinT_eq (sep : Txt) : ∀ ts : List Txt, joinT sep ts = TL.joinL sep ts
  | [] => rfl
  | [_] => rfl
  | x :: y :: ts => by
    show x ++ (sep ++ joinT sep (y :: ts)) = _
    rw [joinT_eq sep (y :: ts)]
    rfl

/-! ### the built-in functions, methods -/
theorem sgn_tx (x : Txt) : sgn (tx x) = (x.map fun c => [c]).map tx := by simp [sgn, tx]
theorem sgn_rel (x : Txt) : RelWs g.K m H (signs x) ((sgn (tx x)).map V.str) := by
  rw [sgn_tx]
  have := rels_txt (g := g) (m := m) (H := H) (x.map fun c => [c])
  rw [List.map_map] at this
  exact this
theorem tx_inj {a b : Txt} (h : tx a = tx b) : a = b := by
  have := congrArg (fun z : Str => z.cps.toList) h
  simpa [tx] using this
theorem dedup_mem {α : Type} [DecidableEq α] {a : α} : ∀ {l : List α}, a ∈ dedup l ↔ a ∈ l
  | [] => Iff.rfl
  | x :: l => by
    unfold dedup
    have ih := dedup_mem (a := a) (l := l)
    split
    · rename_i hx
      rw [ih, List.mem_cons]
      constructor
      · exact .inr
      · rintro (rfl | h)
        · exact dedup_mem.mp hx
        · exact h
    · rw [List.mem_cons, List.mem_cons, ih]
theorem dedup_nodup {α : Type} [DecidableEq α] : ∀ l : List α, (dedup l).Nodup
  | [] => .nil
  | x :: l => by
    unfold dedup
    split
    · exact dedup_nodup l
    · rename_i hx
      exact List.nodup_cons.mpr ⟨hx, dedup_nodup l⟩
theorem one_of {xs : List V} {as : List W} {a : W} (r : RelWs g.K m H [a] xs) : ∃ x, xs = [x] ∧ RelW g.K m H a x := by
  cases r with
  | cons h hr => cases hr; exact ⟨_, rfl, h⟩
def biV : Bi → Value
  | .len => .builtin "len" | .absf => .builtin "abs" | .maxf => .builtin "max" | .minf => .builtin "min" | .allf => .builtin "all" | .anyf => .builtin "any" | .sortedf => .builtin "sorted" | .reprf => .builtin "repr" | .sumf => .builtin "sum"
  | .intf => .type "int" | .listf => .type "list" | .tuplef => .type "tuple" | .strf => .type "str" | .boolf => .type "bool"
theorem cr_ok (hc : X.calm = true) (b : Bi) : CallR X (biV b) (rOs (T.g X) Xw (callB b)) := by
  intro pins s σ H xs us Q I r h
  obtain ⟨σ', m, L, as, S, ra, h⟩ := h
  cases b with
  | len =>
    cases as with
    | nil => exact False.elim h
    | cons a as =>
      cases as with
      | cons a2 as => cases a <;> exact False.elim h
      | nil =>
        obtain ⟨x, rfl, rx⟩ := one_of (as := []) ra
        have key : ∀ ws, itemsOf L a = some ws → run (T.g X) Xw σ' (RelW X.K) (ret (.int ws.length)) m H L Q → wpAny (model X.prog X.w) X.A (call (biV .len) us) (EP X pins σ Q) X.xe s := fun ws e h => by
          obtain ⟨p, zs, rfl, hs, hr⟩ := S.items rx e
          refine call_len pins s σ H _ us Q I r ⟨_, zs.length, rfl, ?_, ?_⟩
          · rcases hs with hs | hs
            · exact .inl ⟨zs, hs, rfl⟩
            · exact .inr ⟨zs, sqT hs, rfl⟩
          · rw [← hr.length]; exact run_val h S (.int _)
        cases a with
        | str z =>
          cases rx
          rcases run_if h with ⟨c, h⟩ | ⟨_, h⟩
          · exact call_len pins s σ H _ us Q I r ⟨_, z.length, rfl, ⟨by rw [str_len]; exact lenOk_le c, (str_len z).symm⟩, run_val h S (.int _)⟩
          · exact h.elim
        | tup ws => exact key ws rfl h
        | ref l =>
          have h : run (T.g X) Xw σ' (RelW X.K) (match itemsOf L (.ref l) with
            | some ws => ret (.int ws.length)
            | none => fail) m H L Q := h
          split at h
          · rename_i ws e; exact key ws e h
          · exact h.elim
        | _ => exact False.elim h
  | intf =>
    cases as with
    | nil => exact False.elim h
    | cons a as =>
      cases as with
      | cons a2 as => cases a <;> exact False.elim h
      | nil =>
        obtain ⟨x, rfl, rx⟩ := one_of (as := []) ra
        cases a <;> try exact False.elim h
        · cases rx; exact call_int1 pins s σ H _ us Q I r (.inr ⟨_, rfl, run_val h S (.int _)⟩)
        · cases rx; exact call_int1 pins s σ H _ us Q I r (.inl ⟨_, rfl, run_val h S (.int _)⟩)
  | allf =>
    cases as with
    | nil => exact False.elim h
    | cons a as =>
      cases as with
      | cons a2 as => cases a <;> exact False.elim h
      | nil =>
        cases a <;> try exact False.elim h
        rename_i l
        obtain ⟨x, rfl, rx⟩ := one_of (as := []) ra
        have h : run (T.g X) Xw σ' (RelW X.K) (match (itemsOf L (.ref l)).bind fun ws => ws.mapM blOf with
          | some bs => ret (.bl (bs.all id))
          | none => fail) m H L Q := h
        split at h
        · rename_i bs e
          obtain ⟨ws, e1, e2⟩ := Option.bind_eq_some_iff.mp e
          cases rx with
          | ref hl =>
            obtain ⟨zs, hs, hr⟩ := S.itemsL hl e1
            have ez := rel_bl e2 hr
            subst ez
            exact cr_all hc pins s σ H _ us Q I r ⟨_, bs, rfl, hs, run_val h S (.bl _)⟩
        · exact h.elim
  | anyf =>
    cases as with
    | nil => exact False.elim h
    | cons a as =>
      cases as with
      | cons a2 as => cases a <;> exact False.elim h
      | nil =>
        cases a <;> try exact False.elim h
        rename_i l
        obtain ⟨x, rfl, rx⟩ := one_of (as := []) ra
        have h : run (T.g X) Xw σ' (RelW X.K) (match (itemsOf L (.ref l)).bind fun ws => ws.mapM blOf with
          | some bs => ret (.bl (bs.any id))
          | none => fail) m H L Q := h
        split at h
        · rename_i bs e
          obtain ⟨ws, e1, e2⟩ := Option.bind_eq_some_iff.mp e
          cases rx with
          | ref hl =>
            obtain ⟨zs, hs, hr⟩ := S.itemsL hl e1
            have ez := rel_bl e2 hr
            subst ez
            exact cr_any hc pins s σ H _ us Q I r ⟨_, bs, rfl, hs, run_val h S (.bl _)⟩
        · exact h.elim
  | listf =>
    cases as with
    | nil => exact False.elim h
    | cons a as =>
      cases as with
      | cons a2 as => cases a <;> exact False.elim h
      | nil =>
        obtain ⟨x, rfl, rx⟩ := one_of (as := []) ra
        by_cases hs : ∃ z, a = .str z
        · obtain ⟨z, rfl⟩ := hs
          cases rx
          rcases run_if h with ⟨c, h⟩ | ⟨_, h⟩
          · exact cr_listTxt hc pins s σ H _ us Q I r ⟨_, rfl, by simpa using lenOk_le c, fun p hp => run_new h S (sgn_rel z) hp⟩
          · exact h.elim
        have h : run (T.g X) Xw σ' (RelW X.K) (match itemsOf L a with
          | some ws => alloc (.lst ws)
          | none => fail) m H L Q := by
          cases a <;> first | exact h | exact absurd ⟨_, rfl⟩ hs
        split at h
        · rename_i ws e
          obtain ⟨p, zs, rfl, hs, hr⟩ := S.items rx e
          exact call_list_of pins s σ H _ us Q I r ⟨p, zs, rfl, hs.imp id sqT, fun l hl => run_new h S hr hl⟩
        · exact h.elim
  | tuplef =>
    cases as with
    | nil => exact False.elim h
    | cons a as =>
      cases as with
      | cons a2 as => cases a <;> exact False.elim h
      | nil =>
        obtain ⟨x, rfl, rx⟩ := one_of (as := []) ra
        by_cases hs : ∃ z, a = .str z
        · obtain ⟨z, rfl⟩ := hs
          cases rx
          rcases run_if h with ⟨c, h⟩ | ⟨_, h⟩
          · exact cr_tupleTxt hc pins s σ H _ us Q I r ⟨_, rfl, by simpa using lenOk_le c, fun p hp => run_tup h S (sgn_rel z) hp⟩
          · exact h.elim
        have h : run (T.g X) Xw σ' (RelW X.K) (match itemsOf L a with
          | some ws => ret (.tup ws)
          | none => fail) m H L Q := by
          cases a <;> first | exact h | exact absurd ⟨_, rfl⟩ hs
        split at h
        · rename_i ws e
          obtain ⟨p, zs, rfl, hs, hr⟩ := S.items rx e
          refine call_tuple_of pins s σ H _ us Q I r ⟨p, zs, rfl, ?_⟩
          rcases hs with hs | hs
          · exact .inl ⟨hs, fun l hl => run_tup h S hr hl⟩
          · exact .inr ⟨sqT hs, run_val h S (.tup hs hr)⟩
        · exact h.elim
  | sortedf =>
    cases as with
    | nil => exact False.elim h
    | cons a as =>
      cases as with
      | cons a2 as => cases a <;> exact False.elim h
      | nil =>
        obtain ⟨x, rfl, rx⟩ := one_of (as := []) ra
        by_cases hs : ∃ z, a = .str z
        · obtain ⟨z, rfl⟩ := hs
          cases rx
          rcases run_if h with ⟨c, h⟩ | ⟨_, h⟩
          · refine cr_sortedTxt hc pins s σ H _ us Q I r ⟨_, rfl, by simpa using lenOk_le c, fun ys p perm srt hp => ?_⟩
            have perm : ys.Perm ((z.map fun c => [c]).map tx) := by rw [← sgn_tx]; exact perm
            rw [sortT_eq perm srt]
            exact run_new h S (rels_txt _) hp
          · exact h.elim
        cases a <;> try first | exact False.elim h | exact absurd ⟨_, rfl⟩ hs
        rename_i l
        have h : run (T.g X) Xw σ' (RelW X.K) (match itemsOf L (.ref l) with
          | some ws => (match ws.mapM intOf with
            | some is => alloc (.lst ((sortI is).map .int))
            | none => (match ws.mapM txtOf with
              | some ts => if decide (ts.length < 64) then alloc (.lst ((sortT ts).map .str)) else fail
              | none => fail))
          | none => fail) m H L Q := h
        split at h
        · rename_i ws e
          cases rx with
          | ref hl =>
            obtain ⟨zs, hs, hr⟩ := S.itemsL hl e
            split at h
            · rename_i is e2
              have ez := rel_int e2 hr
              subst ez
              refine cr_sortedI pins s σ H _ us Q I r ⟨_, is, rfl, hs, fun ns' p perm srt hp => ?_⟩
              rw [sortI_eq perm srt]
              exact run_new h S (rels_int _) hp
            · split at h
              · rename_i ts e2
                have ez := rel_txt e2 hr
                subst ez
                rcases run_if h with ⟨c, h⟩ | ⟨_, h⟩
                · refine cr_sortedS pins s σ H _ us Q I r ⟨_, ts.map tx, rfl, hs, by rw [List.length_map]; exact of_decide_eq_true c, fun ys p perm srt hp => ?_⟩
                  rw [sortT_eq perm srt]
                  exact run_new h S (rels_txt _) hp
                · exact h.elim
              · exact h.elim
        · exact h.elim
  | strf =>
    cases as with
    | nil => exact False.elim h
    | cons a as =>
      cases as with
      | cons a2 as => cases a <;> exact False.elim h
      | nil =>
        obtain ⟨x, rfl, rx⟩ := one_of (as := []) ra
        cases a <;> try exact False.elim h
        · rename_i i
          cases rx
          rcases run_if h with ⟨c, h⟩ | ⟨_, h⟩
          · exact call_str_int pins s σ H _ us Q I r ⟨i, rfl, of_decide_eq_true c, run_val h S (.str _)⟩
          · exact h.elim
        · cases rx
          exact SkE.call_str_str pins s σ H _ us Q I r ⟨_, rfl, run_val h S (.str _)⟩
  | absf =>
    cases as with
    | nil => exact False.elim h
    | cons a as =>
      cases as with
      | cons a2 as => cases a <;> exact False.elim h
      | nil =>
        obtain ⟨x, rfl, rx⟩ := one_of (as := []) ra
        cases a <;> try exact False.elim h
        cases rx
        exact call_abs pins s σ H _ us Q I r ⟨_, rfl, run_val h S (.int _)⟩
  | minf =>
    cases as with
    | nil => exact False.elim h
    | cons a as =>
      cases as with
      | nil => cases a <;> exact False.elim h
      | cons a2 as =>
        cases as with
        | cons a3 as => cases a <;> cases a2 <;> exact False.elim h
        | nil =>
          cases ra with
          | cons r1 r2 =>
            obtain ⟨y, rfl, ry⟩ := one_of (as := []) r2
            cases a <;> cases a2 <;> try exact False.elim h
            cases r1; cases ry
            exact call_min2 hc pins s σ H _ us Q I r ⟨_, _, rfl, run_val h S (.int _)⟩
  | maxf =>
    cases as with
    | nil => exact False.elim h
    | cons a as =>
      cases as with
      | nil => cases a <;> exact False.elim h
      | cons a2 as =>
        cases as with
        | cons a3 as => cases a <;> cases a2 <;> exact False.elim h
        | nil =>
          cases ra with
          | cons r1 r2 =>
            obtain ⟨y, rfl, ry⟩ := one_of (as := []) r2
            cases a <;> cases a2 <;> try exact False.elim h
            cases r1; cases ry
            exact call_max2 hc pins s σ H _ us Q I r ⟨_, _, rfl, run_val h S (.int _)⟩
  | _ =>
    cases as with
    | nil => exact False.elim h
    | cons a as => cases a <;> cases as <;> exact False.elim h
end
end Dx

set_option maxRecDepth 100000
set_option maxHeartbeats 4000000
/-! Dx6b: methods of texts and lists, isinstance, comprehensions: by values. -/
namespace Dx
open PySem PySem.Spec PyProof.Rows L2
section
variable {T : Tab} {X : Cx} {Xw : XW} {g : G} {m : List Addr} {L : Hh} {H : Hp} {σ : L2.St}
/-! ### methods -/
def bmT : Bm → String
  | .append => "list" | .pop => "list" | _ => "str"
def bmId : Bm → String
  | .join => "str.join" | .append => "list.append" | .islower => "str.islower" | .isalpha => "str.isalpha" | .pop => "list.pop" | .find => "str.find" | .startswith => "str.startswith" | .endswith => "str.endswith"
  | _ => ""
theorem bm_slot {b : Bm} (h : bmOk b = true) : PlainAttrs (bmT b) ∧ Slot (bmT b) (bmName b) (bmId b) ∧ typeOf (.builtin (bmId b)) = pure (.type "method_descriptor") := by
  cases b with
  | join => exact ⟨F.plainAttrs_str, F.slot_str_join, F.type_str_join⟩
  | append => exact ⟨F.plainAttrs_list, F.slot_list_append, F.type_list_append⟩
  | islower => exact ⟨F.plainAttrs_str, F.slot_str_islower, F.type_str_islower⟩
  | isalpha => exact ⟨F.plainAttrs_str, F.slot_str_isalpha, F.type_str_isalpha⟩
  | pop => exact ⟨F.plainAttrs_list, F.slot_list_pop, F.type_list_pop⟩
  | find => exact ⟨F.plainAttrs_str, F.slot_str_find, F.type_str_find⟩
  | startswith => exact ⟨F.plainAttrs_str, F.slot_str_startswith, F.type_str_startswith⟩
  | endswith => exact ⟨F.plainAttrs_str, F.slot_str_endswith, F.type_str_endswith⟩
  | _ => cases h
theorem rcv_ty {b : Bm} {w : W} {v : V} (S : Sim g m L H) (r : RelW g.K m H w v) (h : rcvOk L b w = true) : tyV g.K (bmT b) v H := by
  cases w with
  | str x => cases r; cases b <;> first | rfl | cases h
  | ref l =>
    cases r with
    | ref hl =>
      have key : (itemsOf L (.ref l)).isSome = true → ∃ xs, SqL g.K H _ xs := fun q => by
        obtain ⟨ws, e⟩ := Option.isSome_iff_exists.mp q
        obtain ⟨xs, h1, _⟩ := S.itemsL hl e
        exact ⟨xs, h1⟩
      cases b <;> first | exact .inl ⟨rfl, key h⟩ | cases h
  | _ => cases b <;> cases h
theorem mt_ok (b : Bm) : MtR X (bmId b) (rMs (T.g X) Xw (callM b)) := by
  intro pins s σ H x xs v us Q I rx rs h
  obtain ⟨σ', m, L, a, as, S, ra, ras, h⟩ := h
  cases b with
  | islower =>
    cases a <;> try exact False.elim h
    cases as with
    | cons _ _ => exact False.elim h
    | nil =>
      cases ra; cases ras
      exact mt_islower pins s σ H _ [] v us Q I rx rs ⟨_, rfl, rfl, trivial, run_val h S (.bl _)⟩
  | isalpha =>
    cases a <;> try exact False.elim h
    cases as with
    | cons _ _ => exact False.elim h
    | nil =>
      cases ra; cases ras
      exact mt_isalpha pins s σ H _ [] v us Q I rx rs ⟨_, rfl, rfl, trivial, run_val h S (.bl _)⟩
  | append =>
    cases a <;> try exact False.elim h
    rename_i l
    cases as with
    | nil => exact False.elim h
    | cons w as =>
      cases as with
      | cons _ _ => exact False.elim h
      | nil =>
        obtain ⟨y, rfl, ry⟩ := one_of (as := []) ras
        cases ra with
        | ref hl =>
          have h : run (T.g X) Xw σ' (RelW X.K) (match L[l]? with
            | some (.lst ws) => if decide (ws.length < sizeLine) then bnd (put l (.lst (ws ++ [w]))) fun _ => ret .non else fail
            | _ => fail) m H L Q := h
          split at h
          · rename_i ws e
            rcases run_if h with ⟨c, h⟩ | ⟨_, h⟩
            · obtain ⟨zs, h1, r1⟩ := S.lst hl e
              refine mt_append pins s σ H _ _ v us Q I rx rs ⟨_, zs, y, rfl, rfl, h1, by rw [← r1.length]; exact of_decide_eq_true c, ?_⟩
              obtain ⟨e1, S1⟩ := S.put (o' := .lst (ws ++ [w])) (u := .lst (zs ++ [y])) hl e rfl fun e1 => ⟨_, upd_same, (r1.append (.one ry)).mono e1⟩
              exact h _ _ _ e1 S1 .non
            · exact h.elim
          · exact h.elim
  | join =>
    cases a <;> try exact False.elim h
    rename_i sep
    cases as with
    | nil => exact False.elim h
    | cons w as =>
      cases as with
      | cons _ _ => exact False.elim h
      | nil =>
        obtain ⟨y, rfl, ry⟩ := one_of (as := []) ras
        cases ra
        have h : run (T.g X) Xw σ' (RelW X.K) (match (itemsOf L w).bind fun ws => ws.mapM txtOf with
          | some ts => if decide ((ts.map List.length).sum + ts.length * sep.length ≤ 16777216) then ret (.str (joinT sep ts)) else fail
          | none => fail) m H L Q := h
        split at h
        · rename_i ts e
          rcases run_if h with ⟨c, h⟩ | ⟨_, h⟩
          · obtain ⟨ws, e1, e2⟩ := Option.bind_eq_some_iff.mp e
            obtain ⟨p, zs, rfl, hs, hr⟩ := S.items ry e1
            have ez := rel_txt e2 hr
            subst ez
            have c := of_decide_eq_true c
            refine mt_join pins s σ H _ _ v us Q I rx rs ⟨_, p, ts.map tx, rfl, rfl, hs.imp id sqT, ?_, ?_⟩
            · have e3 : (ts.map tx).map (·.length) = ts.map List.length := SX.lens ts
              rw [e3, List.length_map, str_len]
              exact c
            · have e4 : Txt.join (⟨sep.toArray⟩ : Str) (ts.map tx) = ⟨(joinT sep ts).toArray⟩ := by rw [joinT_eq]; exact SX.join_S sep ts
              rw [e4]
              exact run_val h S (.str _)
          · exact h.elim
        · exact h.elim
  | pop =>
    cases a <;> try exact False.elim h
    rename_i l
    cases as with
    | cons _ _ => exact False.elim h
    | nil =>
      cases ras
      cases ra with
      | ref hl =>
        have h : run (T.g X) Xw σ' (RelW X.K) (match L[l]? with
          | some (.lst ws) => (match ws.getLast? with
            | some w => bnd (put l (.lst ws.dropLast)) fun _ => ret w
            | none => fail)
          | _ => fail) m H L Q := h
        split at h
        · rename_i ws e
          split at h
          · rename_i w ew
            obtain ⟨zs, h1, r1⟩ := S.lst hl e
            rw [List.getLast?_eq_getElem?] at ew
            obtain ⟨y, ey, ry⟩ := r1.get ew
            refine mt_pop pins s σ H _ [] v us Q I rx rs ⟨_, zs, y, rfl, rfl, h1, by rw [← r1.length]; exact ey, ?_⟩
            obtain ⟨e1, S1⟩ := S.put (o' := .lst ws.dropLast) (u := .lst zs.dropLast) hl e rfl fun e1 => ⟨_, upd_same, r1.dropLast.mono e1⟩
            exact h _ _ _ e1 S1 (ry.mono e1)
          · exact h.elim
        · exact h.elim
  | find =>
    cases a <;> try exact False.elim h
    cases as with
    | nil => exact False.elim h
    | cons w as =>
      cases as with
      | cons _ _ => cases w <;> exact False.elim h
      | nil =>
        cases w <;> try exact False.elim h
        obtain ⟨y, rfl, ry⟩ := one_of (as := []) ras
        cases ra; cases ry
        exact mt_find pins s σ H _ _ v us Q I rx rs ⟨_, _, rfl, rfl, run_val h S (.int _)⟩
  | startswith =>
    cases a <;> try exact False.elim h
    cases as with
    | nil => exact False.elim h
    | cons w as =>
      cases as with
      | cons _ _ => cases w <;> exact False.elim h
      | nil =>
        cases w <;> try exact False.elim h
        obtain ⟨y, rfl, ry⟩ := one_of (as := []) ras
        cases ra; cases ry
        exact mt_startswith pins s σ H _ _ v us Q I rx rs ⟨_, _, rfl, rfl, run_val h S (.bl _)⟩
  | endswith =>
    cases a <;> try exact False.elim h
    cases as with
    | nil => exact False.elim h
    | cons w as =>
      cases as with
      | cons _ _ => cases w <;> exact False.elim h
      | nil =>
        cases w <;> try exact False.elim h
        obtain ⟨y, rfl, ry⟩ := one_of (as := []) ras
        cases ra; cases ry
        exact mt_endswith pins s σ H _ _ v us Q I rx rs ⟨_, _, rfl, rfl, run_val h S (.bl _)⟩
  | _ => cases a <;> cases as <;> exact False.elim h
/-! ### isinstance -/
theorem kit_nm : ∀ a ∈ nmAll, ∀ b ∈ tyNames, kitB a b = some (a == b || (a == "bool" && b == "int")) := by decide +kernel
theorem boot_nm : ∀ b ∈ tyNames, bootBuiltins (Str.ofString b) = some (.type b) := by decide +kernel
theorem ty_ne : ∀ b ∈ tyNames, Str.ofString b ≠ ("__name__" : Str) ∧ (Str.ofString b == ("__debug__" : Str)) = false := by decide +kernel
theorem tyx_of {w : W} {v : V} {a : String} (S : Sim g m L H) (r : RelW g.K m H w v) (e : typeNm L w = some a) : TyX g.K H v (.type a) ∧ a ∈ nmAll := by
  cases w with
  | non => cases r; cases e; exact ⟨.base .non, by decide⟩
  | bl b => cases r; cases e; exact ⟨.base (.bl _), by decide⟩
  | int i => cases r; cases e; exact ⟨.base (.int _), by decide⟩
  | str x => cases r; cases e; exact ⟨.base (.str _), by decide⟩
  | tup ws =>
    cases e
    refine ⟨?_, by decide⟩
    cases r with
    | tup h hr =>
      exact .base (.tup h)
  | ref l =>
    cases r with
    | @ref _ p hl =>
      have e : (match L[l]? with
        | some (.lst _) => some "list"
        | some (.ro _) => some "list"
        | some (.dct _ _) => some "dict"
        | _ => none) = some a := e
      split at e
      · rename_i ws ew
        cases e
        obtain ⟨xs, h, _⟩ := S.ob l p _ hl ew
        exact ⟨.base (.lst h), by decide⟩
      · rename_i ws ew
        cases e
        obtain ⟨o, xs, h, _⟩ := S.ob l p _ hl ew
        exact ⟨.base (.frz h), by decide⟩
      · rename_i tt kvs ew
        cases e
        refine ⟨?_, by decide⟩
        cases tt
        · obtain ⟨qs, h, _⟩ := S.ob l p _ hl ew
          exact .base (.dK h)
        · obtain ⟨qs, h, _⟩ := S.ob l p _ hl ew
          exact .base (.dT h)
      · cases e
  | exn c fs => cases e
  | clo k cs => cases e
  | scr ws => cases e

/-! ### comprehensions -/
theorem wipe_get {σ : L2.St} {i : Nat} : ∀ vs : List Nat, (wipe σ vs)[i]? = if i ∈ vs then (if i < σ.length then some none else none) else σ[i]?
  | [] => by simp [wipe]
  | v :: vs => by
    unfold wipe
    by_cases hv : v = i
    · subst hv
      rw [if_pos (by simp)]
      split
      · exact List.getElem?_set_self (by rw [wipe_length]; assumption)
      · rename_i h
        rw [List.getElem?_eq_none (by rw [List.length_set, wipe_length]; omega)]
    · rw [List.getElem?_set_ne hv, wipe_get vs]
      have : (i ∈ v :: vs) ↔ i ∈ vs := by simp [Ne.symm hv]
      simp only [this]
theorem wipeF_length (ρ : Fr) : ∀ vs : List Nat, (wipeF ρ vs).length = ρ.length
  | [] => rfl
  | v :: vs => by unfold wipeF; rw [List.length_set, wipeF_length ρ vs]
theorem wipeF_get {ρ : Fr} {i : Nat} : ∀ vs : List Nat, (wipeF ρ vs)[i]? = if i ∈ vs then (if i < ρ.length then some none else none) else ρ[i]?
  | [] => by simp [wipeF]
  | v :: vs => by
    unfold wipeF
    by_cases hv : v = i
    · subst hv
      rw [if_pos (by simp)]
      split
      · exact List.getElem?_set_self (by rw [wipeF_length]; assumption)
      · rename_i h
        rw [List.getElem?_eq_none (by rw [List.length_set, wipeF_length]; omega)]
    · rw [List.getElem?_set_ne hv, wipeF_get vs]
      have : (i ∈ v :: vs) ↔ i ∈ vs := by simp [Ne.symm hv]
      simp only [this]
theorem RelF.wipe {K : PySem.W.Frag} {ρ : Fr} (F : RelF K m H ρ σ) (vs : List Nat) : RelF K m H (wipeF ρ vs) (wipe σ vs) := by
  refine ⟨by rw [wipeF_length, wipe_length, F.len], fun i w h => ?_⟩
  rw [wipeF_get] at h
  rw [wipe_get]
  split at h
  · split at h <;> cases h
  · rename_i hv
    rw [if_neg hv]
    exact F.at_ i w h
theorem wipe_same {σ2 : L2.St} {vs : List Nat} (hl : σ2.length = σ.length) (h : ∀ i, i ∉ vs → σ2[i]? = (L2.wipe σ vs)[i]?) : L2.wipe σ2 vs = L2.wipe σ vs := by
  refine List.ext_getElem? fun i => ?_
  rw [wipe_get, wipe_get, hl]
  split
  · rfl
  · rename_i hv
    have := h i hv
    rw [wipe_get, if_neg hv] at this
    exact this
theorem run_noX {α β : Type} {R : List Addr → Hp → α → β → Prop} {Q : β → Hp → Prop} {Xw' : XW} {σ' : L2.St} {c : M α} (h : run g Xw σ R (noX c) m H L Q) : run g Xw' σ' R c m H L Q := by
  unfold run at h ⊢
  rw [wp_noX] at h
  exact wp_mono h (fun _ _ q => q) fun _ _ q => q.elim
/-- what a source's item is, statically -/
theorem run_bnd_at {α γ β δ : Type} {R : List Addr → Hp → α → β → Prop} {R' : List Addr → Hp → γ → δ → Prop} {Q : β → Hp → Prop} {c : M γ} {f : γ → M α} {w : γ} {L1 : Hh} (h : run g Xw σ R (bnd c f) m H L Q) (e : c L = .ok w L1) :
    run g Xw σ R' c m H L (fun d H1 => ∃ m1, Ext m H m1 H1 ∧ Sim g m1 L1 H1 ∧ R' m1 H1 w d ∧ run g Xw σ R (f w) m1 H1 L1 Q) := by
  unfold run at h ⊢
  rw [wp_bnd] at h
  have hx := h
  unfold wp at h ⊢
  rw [e] at h ⊢
  intro m1 H1 b e1 s1 r1
  refine ⟨m1, e1, s1, r1, ?_⟩
  exact wp_mono h (fun _ _ q m' H' b e' s r => q m' H' b (e1.trans e') s r) fun _ _ q m' H' cls d e' s r => q m' H' cls d (e1.trans e') s r
theorem run_bnd_ex {α γ β δ : Type} {R : List Addr → Hp → α → β → Prop} {R' : List Addr → Hp → γ → δ → Prop} {Q : β → Hp → Prop} {Q' : δ → Hp → Prop} {c : M γ} {f : γ → M α} {w : W} {L1 : Hh} (h : run g Xw σ R (bnd c f) m H L Q) (e : c L = .exc w L1) :
    run g Xw σ R' c m H L Q' := by
  unfold run at h ⊢
  rw [wp_bnd] at h
  unfold wp at h ⊢
  rw [e] at h ⊢
  exact h
theorem run_bnd_bad {α γ β : Type} {R : List Addr → Hp → α → β → Prop} {Q : β → Hp → Prop} {c : M γ} {f : γ → M α} (h : run g Xw σ R (bnd c f) m H L Q) (e : c L = .bad) : False := by
  unfold run at h
  rw [wp_bnd] at h
  unfold wp at h
  rw [e] at h
  exact h
end
end Dx

set_option maxRecDepth 100000
set_option maxHeartbeats 4000000
/-! Dx6c: fields of instances, by values. -/
namespace Dx
open PySem PySem.Spec PyProof.Rows L2
section
variable {T : Tab} {X : Cx} {Xw : XW} {g : G} {m : List Addr} {L : Hh} {H : Hp} {σ : L2.St}
theorem getD_inj {FN : List Str} (nd : FN.Nodup) {i j : Nat} (hi : i < FN.length) (hj : j < FN.length) (h : FN.getD i Str.empty = FN.getD j Str.empty) : i = j := by
  rw [List.getD_eq_getElem?_getD, List.getD_eq_getElem?_getD, List.getElem?_eq_getElem hi, List.getElem?_eq_getElem hj] at h
  exact (List.getElem_inj nd).mp h
theorem lk_fld {K : PySem.W.Frag} {FN : List Str} (nd : FN.Nodup) {f : Nat} (hf : f < FN.length) : ∀ {fs : List (Nat × W)} {qs : List (Str × V)}, qs.map (·.1) = fs.map (fun p => FN.getD p.1 Str.empty) → (∀ p ∈ fs, p.1 < FN.length) → RelWs K m H (fs.map (·.2)) (qs.map (·.2)) →
    ∀ {w : W}, getFld fs f = some w → ∃ v, qs.lookup (FN.getD f Str.empty) = some v ∧ RelW K m H w v
  | [], _, _, _, _, w, h => by simp [getFld] at h
  | (k, z) :: fs, [], e, _, _, w, h => by simp at e
  | (k, z) :: fs, (n, v) :: qs, e, hk, r, w, h => by
    simp only [List.map_cons, List.cons.injEq] at e
    cases r with
    | cons r1 r2 =>
      have hk0 : k < FN.length := hk (k, z) (by simp)
      by_cases hc : k = f
      · subst hc
        simp [getFld, List.find?_cons] at h
        subst h
        refine ⟨v, ?_, r1⟩
        rw [← e.1]
        simp [List.lookup]
      · have h2 : getFld fs f = some w := by
          simp [getFld, List.find?_cons, hc] at h ⊢
          exact h
        obtain ⟨y, e1, e2⟩ := lk_fld nd hf e.2 (fun p hp => hk p (by simp [hp])) r2 h2
        refine ⟨y, ?_, e2⟩
        have hne : (FN.getD f Str.empty == n) = false := by
          rw [e.1]
          simp only [beq_eq_false_iff_ne, ne_eq]
          exact fun q => hc (getD_inj nd hk0 hf q.symm)
        rw [List.lookup_cons, hne]
        exact e1
theorem lk_none {FN : List Str} {x : Str} (hx : x ∉ FN) : ∀ {fs : List (Nat × W)} {qs : List (Str × V)}, qs.map (·.1) = fs.map (fun p => FN.getD p.1 Str.empty) → (∀ p ∈ fs, p.1 < FN.length) → qs.lookup x = none
  | [], [], _, _ => rfl
  | [], _ :: _, e, _ => by simp at e
  | (k, z) :: fs, [], e, _ => by simp at e
  | (k, z) :: fs, (n, v) :: qs, e, hk => by
    simp only [List.map_cons, List.cons.injEq] at e
    have hk0 : k < FN.length := hk (k, z) (by simp)
    have hne : (x == n) = false := by
      rw [e.1]
      simp only [beq_eq_false_iff_ne, ne_eq]
      intro q
      apply hx
      rw [q, List.getD_eq_getElem?_getD, List.getElem?_eq_getElem hk0]
      exact List.getElem_mem hk0
    rw [List.lookup_cons, hne]
    exact lk_none hx e.2 fun p hp => hk p (by simp [hp])
theorem put_fld {K : PySem.W.Frag} {FN : List Str} (nd : FN.Nodup) {f : Nat} (hf : f < FN.length) {w : W} {v : V} (rw' : RelW K m H w v) : ∀ {fs : List (Nat × W)} {qs : List (Str × V)}, qs.map (·.1) = fs.map (fun p => FN.getD p.1 Str.empty) → (∀ p ∈ fs, p.1 < FN.length) → RelWs K m H (fs.map (·.2)) (qs.map (·.2)) →
    (putF (FN.getD f Str.empty) v qs).map (·.1) = (putFld f w fs).map (fun p => FN.getD p.1 Str.empty) ∧ (∀ p ∈ putFld f w fs, p.1 < FN.length) ∧ RelWs K m H ((putFld f w fs).map (·.2)) ((putF (FN.getD f Str.empty) v qs).map (·.2))
  | [], [], _, _, _ => ⟨rfl, fun p hp => by simp [putFld] at hp; subst hp; exact hf, .one rw'⟩
  | [], _ :: _, e, _, _ => by simp at e
  | (k, z) :: fs, [], e, _, _ => by simp at e
  | (k, z) :: fs, (n, y) :: qs, e, hk, r => by
    simp only [List.map_cons, List.cons.injEq] at e
    cases r with
    | cons r1 r2 =>
      have hk0 : k < FN.length := hk (k, z) (by simp)
      by_cases hc : k = f
      · subst hc
        have e2 : n = FN.getD k Str.empty := e.1
        simp only [putF, putFld, if_pos e2, if_true, List.map_cons]
        refine ⟨by rw [e2, e.2], fun p hp => ?_, .cons rw' r2⟩
        rcases List.mem_cons.mp hp with q | q
        · rw [q]; exact hk0
        · exact hk p (List.mem_cons_of_mem _ q)
      · have hne : ¬ n = FN.getD f Str.empty := by
          rw [e.1]
          exact fun q => hc (getD_inj nd hk0 hf q)
        obtain ⟨i1, i2, i3⟩ := put_fld nd hf rw' e.2 (fun p hp => hk p (by simp [hp])) r2
        simp only [putF, putFld, if_neg hne, if_neg hc, List.map_cons]
        refine ⟨by rw [e.1, i1], fun p hp => ?_, .cons r1 i3⟩
        rcases List.mem_cons.mp hp with q | q
        · subst q; exact hk0
        · exact i2 p q
end
end Dx

set_option maxRecDepth 100000
set_option maxHeartbeats 4000000
/-! Dx6: the run of an expression is as the evaluator says. -/
namespace Dx
open PySem PySem.Spec PyProof.Rows L2

/-- a function at f that does what cl does -/
def CallableQ (T : Tab) (cl : List W → M W) (P : Program) (w : World) (K : PySem.W.Frag) (mg : Str → Option Value) (base : Heap) (k : Nat) (f : Addr) (npos : Nat) (kws : List Str) : Prop :=
  ∀ (A : Around) (outer : List PySem.Env) (s : Shared) (H : Hp) (us ws : List Value) (vs zs : List V) (Q : VK) (E : XK) (m : List Addr) (L : Hh) (as : List W) (σ : L2.St), Room k A → Env0 P w K mg base A outer s H →
    Vals vs us → Vals zs ws → us.length = npos → ws.length = kws.length → Sim ⟨P, w, K, mg, base, T.CN, T.FN, T.rx⟩ m L H → RelWs K m H as (vs ++ zs) → run ⟨P, w, K, mg, base, T.CN, T.FN, T.rx⟩ (fun _ _ cls d H' => E cls d H') σ (RelW K) (cl as) m H L Q →
    codeAny (model P w) A (.call (.ref f) ⟨us, kws.zip ws⟩) (CR (L2.CX P w) outer P w H s Q E) s
/-- the target t's -/
abbrev CallableP (T : Tab) (C : Env) (P : Program) (w : World) (K : PySem.W.Frag) (mg : Str → Option Value) (base : Heap) (d : Nat) (t : Nat) (f : Addr) (npos : Nat) (kws : List Str) : Prop := CallableQ T (C.call t) P w K mg base (d + 1) f npos kws
abbrev Callable (T : Tab) (C : Env) (X : Cx) (d : Nat) (t : Nat) (f : Addr) (npos : Nat) (kws : List Str) : Prop := CallableP T C X.prog X.w X.K X.mg X.base d t f npos kws
structure Ok (T : Tab) (p : Pg) (C : Env) (c : Dc) (X : Cx) (d : Nat) : Prop where
  N : X.N = c.N
  sc : X.env.scope = c.sc
  nd : c.N.Nodup
  calm : X.calm = true
  room : Room (d + 1) X.A
  pg : PgOk p X.K X.w X.mg
  fn : ∀ y ∈ c.asn, locB c.sc y = true → X.fn y = true ∨ c.sc.names.lookup y = some .local
  tg : ∀ t g, p.tg[t]? = some g → PySem.W.keepIn X.K (.ref (g.at_.ad X.K)) = true ∧ (∀ y, g.at_ = .glo y → X.mg y = some (.ref (g.at_.ad X.K))) ∧ Callable T C X d t (g.at_.ad X.K) g.npos g.kws
  tgm : ∀ t g, p.tg[t]? = some g → CallableQ T (C.callM t) X.prog X.w X.K X.mg X.base d (g.at_.ad X.K) g.npos g.kws
  cf : CfOk p C
  cn : T.CN = p.cls
  fl : T.FN = p.fld
section
variable {T : Tab} {p : Pg} {C : Env} {c : Dc} {X : Cx} {d : Nat} {Wx : WX}
theorem Ok.vis (O : Ok T p C c X d) {y : Str} (h : visB c.sc y = true) : Vis X.env.scope y := by
  rw [O.sc]
  unfold visB at h
  unfold Vis
  split at h <;> first | (rename_i e; simp [e]; done) | cases h
theorem Ok.loc (O : Ok T p C c X d) {y : Str} (h : locB c.sc y = true) : L2.Loc X.env.scope y := by
  rw [O.sc]
  unfold locB at h
  unfold L2.Loc
  split at h <;> first | (rename_i e; simp [e]; done) | cases h
theorem Ok.gl (O : Ok T p C c X d) {y : Str} (h : glB c.sc y = true) : Gl X y ∧ (y == ("__debug__" : Str)) = false := by
  unfold glB at h
  split at h
  · rename_i e
    refine ⟨?_, ?_⟩
    · show X.env.scope.names.lookup y = _
      rw [O.sc]
      exact e
    · simp only [bne] at h
      simpa using h
  · cases h
theorem Ok.fnl (O : Ok T p C c X d) {y : Str} (ha : y ∈ c.asn) (h : locB c.sc y = true) : X.fn y = true ∨ X.env.scope.names.lookup y = some .local := by
  rw [O.sc]
  exact O.fn y ha h
theorem Ok.blt (O : Ok T p C c X d) {y n : Str} (h : bltB p c.sc y n = true) : y = n ∧ Gl X y ∧ X.mg y = none ∧ (y == ("__debug__" : Str)) = false := by
  simp only [bltB, Bool.and_eq_true, decide_eq_true_eq] at h
  obtain ⟨⟨⟨h1, h2⟩, h3⟩, h4⟩ := h
  obtain ⟨g1, g2⟩ := O.gl h2
  exact ⟨h1, g1, O.pg.free _ (List.contains_iff_mem.mp h3), g2⟩
abbrev WF : WX := fun _ _ _ _ => False
/-- a comprehension's block -/
abbrev Dc.blk (c : Dc) (scope : Scope) (own : List (Str × Nat)) : Dc := ⟨c.N, relS scope c.sc, own.map (·.1)⟩
theorem Ok.blk (O : Ok T p C c X d) {scope : Scope} {own : List (Str × Nat)} (hown : (own.all fun q => match scope.names.lookup q.1 with
    | some .local => true
    | some .cell => true
    | _ => false) = true) (s : Shared) (H : Hp) (Cc : Addr) (cl : List (Str × Addr)) (fp : List Addr) : Ok T p C (c.blk scope own) (X.blk s H scope (compEnvC scope cl Cc X.env) fp) d := by
  refine ⟨O.N, ?_, O.nd, O.calm, O.room, O.pg, fun y hy h => ?_, O.tg, O.tgm, O.cf, O.cn, O.fl⟩
  · show relS scope X.env.scope = relS scope c.sc
    rw [O.sc]
  · obtain ⟨q, hq, rfl⟩ := List.mem_map.mp hy
    have := (List.all_eq_true.mp hown) q hq
    split at this
    · rename_i e
      right
      have z := lookup_relabel_local (env := X.env) e
      have z2 : (relS scope X.env.scope).names.lookup q.1 = some .local := z
      rw [O.sc] at z2
      exact z2
    · rename_i e
      left
      show (scope.names.lookup q.1 == some .cell) = true
      rw [e]
      rfl
    · cases this

/-- constants -/
theorem pe_const {x : Ex} {e : Expr} {v : V} {w : W} (he : ∀ ρ, evE C ρ x = ret w) (hr : ∀ m H, RelW X.K m H w v) (h : PE X e (tC v)) : PE X e (tE T C Wx X x) :=
  PE_imp h fun σ H Q ⟨m, ρ, L, S, F, q⟩ => by
    have q : run (T.g X) (ofW Wx) σ (RelW X.K) (evE C ρ x) m H L Q := q
    rw [he] at q
    exact run_val q S (hr m H)
theorem tOp_of {f : W → W → M W} {a b : Ex} {σ : L2.St} {H : Hp} {Q : VK} (h : tM (T.g X) Wx (RelW X.K) (fun ρ => bnd (evE C ρ a) fun x => bnd (evE C ρ b) fun y => f x y) σ H Q) :
    tOp (rO2 (T.g X) (ofW Wx) f) (tE T C Wx X a) (tE T C Wx X b) σ H Q :=
  (tM_bnd (R' := RelW X.K) h).imp fun v H1 ⟨m1, ρ, L1, x, S1, F1, r1, q1⟩ => ⟨m1, ρ, L1, S1, F1, (run_bnd (R' := RelW X.K) q1).imp fun v2 H2 ⟨m2, L2, y, e2, S2, r2, q2⟩ => ⟨σ, m2, L2, x, y, S2, r1.mono e2, r2, q2⟩⟩
theorem ixplain {x : Ex} {e : Expr} (h : chkE p c x e = true) : PlainIx e := by
  intro o i
  cases e <;> first | rfl | (rw [chk_slice] at h; cases h)
theorem markE {x : Ex} {e : Expr} (h : chkE p c x e = true) (op : CmpOp) : behindInMarks op e = false := by
  cases e <;> first | rfl | (exfalso; revert h; cases x <;> simp [chkE])
theorem tOp_tru {σ : L2.St} {H : Hp} {x : Ex} {Q : Bool → Hp → Prop} (h : tM (T.g X) Wx RB (fun ρ => bnd (evE C ρ x) truth) σ H Q) : tE T C Wx X x σ H fun v H1 => rOT (T.g X) (ofW Wx) truth v H1 Q :=
  (tM_bnd (R' := RelW X.K) h).imp fun v H1 ⟨m1, ρ, L1, x, S1, F1, r1, q1⟩ => ⟨σ, m1, L1, x, S1, r1, q1⟩
theorem tOp_bv {σ : L2.St} {H : Hp} {x : Ex} {Q : Bool → Hp → Prop} (h : tM (T.g X) Wx RB (fun ρ => bnd (evE C ρ x) fun w => match w with
    | .bl b => ret b
    | _ => fail) σ H Q) : tE T C Wx X x σ H fun v H1 => ∃ k, v = .bl k ∧ Q k H1 :=
  (tM_bnd (R' := RelW X.K) h).imp fun v H1 ⟨m1, ρ, L1, w, S1, F1, r1, q1⟩ => by
    cases w <;> try exact False.elim q1
    cases r1
    exact ⟨_, rfl, run_ret (R := RB) q1 S1 rfl⟩

theorem kw_all {ks : List Keyword} {kws : List Str} (h : ks.map (·.arg) = kws.map some) (env : PySem.Env) (pos : Pos) : (backToKw pos (keywordEach ks env)).all (·.1.isSome) = true ∧ (backToKw pos (keywordEach ks env)).filterMap (·.1) = kws ∧ (backToKw pos (keywordEach ks env)).any (·.1.isNone) = false := by
  induction ks generalizing kws with
  | nil =>
    cases kws with
    | nil => exact ⟨rfl, rfl, rfl⟩
    | cons k kws => simp at h
  | cons k ks ih =>
    cases kws with
    | nil => simp at h
    | cons n kws =>
      simp only [List.map_cons, List.cons.injEq] at h
      obtain ⟨a, v, ps⟩ := k
      obtain ⟨h1, h2⟩ := h
      have h1 : a = some n := h1
      subst h1
      obtain ⟨i1, i2, i3⟩ := ih h2
      simp only [backToKw] at i1 i2 i3 ⊢
      refine ⟨?_, ?_, ?_⟩
      · simp only [keywordEach, List.map_cons, List.all_cons, Option.isSome_some, Bool.true_and]; exact i1
      · simp only [keywordEach, List.map_cons, List.filterMap_cons]; rw [i2]
      · simp only [keywordEach, List.map_cons, List.any_cons, Option.isNone_some, Bool.false_or]; exact i3
theorem chkEs_head {xs : List Ex} {es : List Expr} (h : chkEs p c xs es = true) (env : PySem.Env) : es = [] ∨ ∃ e rest, es = e :: rest ∧ starEach (e :: rest) env = (false, eval e env) :: starEach rest env := by
  cases es with
  | nil => exact .inl rfl
  | cons e es =>
    cases xs with
    | nil => simp [chkEs] at h
    | cons x xs =>
      simp only [chkEs, Bool.and_eq_true] at h
      exact .inr ⟨e, es, rfl, star_plain h.1 es env⟩
theorem chkEs_len : ∀ {xs : List Ex} {es : List Expr}, chkEs p c xs es = true → xs.length = es.length
  | [], es, h => by
    cases es with
    | nil => rfl
    | cons e es => simp [chkEs] at h
  | x :: xs, es, h => by
    cases es with
    | nil => simp [chkEs] at h
    | cons e es =>
      simp only [chkEs, Bool.and_eq_true] at h
      simp [chkEs_len h.2]
theorem wp_evEs_len {ρ : Fr} {E : W → Hh → Prop} : ∀ {xs : List Ex} {L : Hh} {Q : List W → Hh → Prop}, wp (evEs C ρ xs) L Q E → wp (evEs C ρ xs) L (fun a L' => Q a L' ∧ a.length = xs.length) E
  | [], L, Q, h => ⟨h, rfl⟩
  | x :: xs, L, Q, h => by
    simp only [evEs, wp_bnd, wp_ret] at h ⊢
    refine wp_mono h (fun a L1 q => ?_) fun _ _ q => q
    exact wp_mono (wp_evEs_len q) (fun b L2 ⟨q1, q2⟩ => ⟨q1, by simp [q2]⟩) fun _ _ q => q
theorem run_bnd_len {α β : Type} {g : G} {Xw : XW} {σ : L2.St} {R : List Addr → Hp → α → β → Prop} {m : List Addr} {H : Hp} {L : Hh} {Q : β → Hp → Prop} {ρ : Fr} {xs : List Ex} {f : List W → M α} (h : run g Xw σ R (bnd (evEs C ρ xs) f) m H L Q) :
    run g Xw σ (RelWs g.K) (evEs C ρ xs) m H L (fun d H1 => ∃ m1 L1 a, Ext m H m1 H1 ∧ Sim g m1 L1 H1 ∧ RelWs g.K m1 H1 a d ∧ a.length = xs.length ∧ run g Xw σ R (f a) m1 H1 L1 Q) := by
  unfold run at h ⊢
  rw [wp_bnd] at h
  refine wp_mono (wp_evEs_len h) (fun a L1 ⟨q, hl⟩ m1 H1 b e1 s1 r1 => ⟨m1, L1, a, e1, s1, r1, hl, ?_⟩) fun _ _ q => q
  exact wp_mono q (fun _ _ q m' H' b e' s r => q m' H' b (e1.trans e') s r) fun _ _ q m' H' cls d e' s r => q m' H' cls d (e1.trans e') s r
theorem tM_bnd_len {α β : Type} {g : G} {σ : L2.St} {R : List Addr → Hp → α → β → Prop} {H : Hp} {Q : β → Hp → Prop} {xs : List Ex} {f : Fr → List W → M α} (h : tM g Wx R (fun ρ => bnd (evEs C ρ xs) (f ρ)) σ H Q) :
    tM g Wx (RelWs g.K) (fun ρ => evEs C ρ xs) σ H (fun d H1 => ∃ m1 ρ L1 x, Sim g m1 L1 H1 ∧ RelF g.K m1 H1 ρ σ ∧ RelWs g.K m1 H1 x d ∧ x.length = xs.length ∧ run g (ofW Wx) σ R (f ρ x) m1 H1 L1 Q) :=
  let ⟨m, ρ, L, S, F, r⟩ := h
  ⟨m, ρ, L, S, F, (run_bnd_len r).imp fun d H1 ⟨m1, L1, x, e, S1, r1, hl, q⟩ => ⟨m1, ρ, L1, x, S1, F.mono e, r1, hl, q⟩⟩
/-- a callable runs -/
theorem call_at {t : Nat} {f : Addr} {npos : Nat} {kws : List Str} (tk : Takes X Wx) (f3 : Callable T C X d t f npos kws) {A : Around} {pins : List (Addr × Obj)} {s : Shared} {σ : L2.St} {H : Hp} {Q : VK} {us zs : List Value} {vs zv : List V} {m : List Addr} {L : Hh} {as : List W} (hr : Room (d + 1) A) (e0 : Env0 X.prog X.w X.K X.mg X.base A X.stack s H)
    (I : L2.Inv X pins σ H s) (r1 : Vals vs us) (r2 : Vals zv zs) (hl : us.length = npos) (hz : zs.length = kws.length) (S : Sim (T.g X) m L H) (ra : RelWs X.K m H as (vs ++ zv)) (q : run (T.g X) (ofW Wx) σ (RelW X.K) (C.call t as) m H L Q) :
    codeAny (model X.prog X.w) A (.call (.ref f) ⟨us, kws.zip zs⟩) (fun r s' => match r with
      | .ok (.ret v) => EP X pins σ Q v s'
      | .ok _ => False
      | .error e => X.xe e s') s := by
  refine codeAny_mono (f3 A X.stack s H us zs vs zv Q (WE Wx σ) m L as σ hr e0 r1 r2 hl hz S ra q) fun r s' hq => ?_
  cases r with
  | error e => exact passAt tk σ pins H s e s' I hq
  | ok fl =>
    cases fl with
    | ret u => exact I.after hq
    | next => exact False.elim hq
    | brk => exact False.elim hq
    | cont => exact False.elim hq
/-- the call of a global function -/
theorem pe_target {t : Nat} {f : Addr} {npos : Nat} {kws : List Str} {y : Str} {ps pos : Pos} {es : List Expr} {ks : List Keyword} {xs ys : List Ex} (tk : Takes X Wx) (hr : Room (d + 1) X.A) (g1 : Gl X y) (g2 : (y == ("__debug__" : Str)) = false) (f1 : X.mg y = some (.ref f)) (f2 : PySem.W.keepIn X.K (.ref f) = true)
    (f3 : Callable T C X d t f npos kws) (h3 : es.length = npos) (hlx : xs.length = es.length) (hly : ys.length = ks.length) (h4 : ks.map (·.arg) = kws.map some) (ha : PA X es (tA T C Wx X xs)) (hk : PK X ks (tA T C Wx X ys)) (hst : ∀ (env : PySem.Env) (pos : Pos), (backTo pos (starEach es env)).any (·.1) = false)
    (hhd : ∀ env, es = [] ∨ ∃ e rest, es = e :: rest ∧ starEach (e :: rest) env = (false, eval e env) :: starEach rest env) : PE X (.Call (.Name y ps) es ks pos) (tE T C Wx X (.call t xs ys)) := by
  refine ⟨fun pins s σ H Q I q => ?_⟩
  refine wpAny_Call_Name_kw (ld_glob I g1 f1 ?_ g2)
  obtain ⟨k1, k2, k3⟩ := kw_all h4 X.env pos
  have fin : ∀ (us : List Value) (s1 : Shared) (vs : List V) (H1 : Hp), L2.Inv X pins σ H1 s1 → Vals vs us → us.length = npos → (∃ m1 ρ L1 ws, Sim (T.g X) m1 L1 H1 ∧ RelF X.K m1 H1 ρ σ ∧ RelWs X.K m1 H1 ws vs ∧ run (T.g X) (ofW Wx) σ (RelW X.K) (bnd (evEs C ρ ys) fun zs => C.call t (ws ++ zs)) m1 H1 L1 Q) →
      wpAny (model X.prog X.w) X.A (evalAll ((backToKw pos (keywordEach ks X.env)).map (·.2))) (fun zs s2 => X.K.In s2.heap ∧ wpAny (model X.prog X.w) X.A (call (.ref f) us (((backToKw pos (keywordEach ks X.env)).filterMap (·.1)).zip zs)) (EP X pins σ Q) X.xe s2) X.xe s1 := by
    intro us s1 vs H1 I1 r1 hl ⟨m1, ρ, L1, ws, S1, F1, rw1, q1⟩
    refine thn (hk.run pos pins s1 σ H1 _ I1 ⟨m1, ρ, L1, S1, F1, run_bnd_len q1⟩) fun zs s2 ⟨zv, H2, I2, r2, m2, L2', as, e2, S2, rz, hla, q2⟩ => ⟨I2.kIn, ?_⟩
    rw [k2]
    have hz : zs.length = kws.length := by
      have e3 := congrArg List.length h4
      simp only [List.length_map] at e3
      have e4 : zs.length = zv.length := r2.length.symm
      have e5 := rz.length
      omega
    have cal := f3 X.A X.stack s2 H2 us zs vs zv Q (WE Wx σ) m2 L2' (ws ++ as) σ hr I2.env0 r1 r2 hl hz S2 ((rw1.mono e2).append rz) q2
    refine wpAny_call (codeAny_mono cal fun r s' hq => ?_)
    cases r with
    | error e => exact passAt tk σ pins H2 s2 e s' I2 hq
    | ok fl =>
      cases fl with
      | ret u => exact I2.after hq
      | next => exact False.elim hq
      | brk => exact False.elim hq
      | cont => exact False.elim hq
  have q := tM_bnd_len q
  rcases hhd X.env with rfl | ⟨e, rest, rfl, he⟩
  · refine PySem.W.callWith_KW0 (h₀ := X.base) I.ok.mod.kin f2 k1 ?_ (by rw [k3]; rfl)
    have hx0 : xs = [] := by
      cases xs with
      | nil => rfl
      | cons x xs => simp at hlx
    subst hx0
    obtain ⟨m, ρ, L, S, F, q⟩ := q
    obtain ⟨m1, ρ1, L1, ws, S1, F1, r1, hl1, q1⟩ := run_ret (R := RelWs X.K) q S .nil
    exact fin [] s [] H I .nil h3 ⟨m1, ρ1, L1, ws, S1, F1, r1, q1⟩
  · refine PySem.W.callWith_KW (h₀ := X.base) I.ok.mod.kin f2 k1 (thn (ha.run pos pins s σ H _ I q) fun us s1 ⟨vs, H1, I1, r, m1, ρ, L1, ws, S1, F1, r1, hl1, q1⟩ => ?_) (by rw [k3, hst]; rfl) he
    refine fin us s1 vs H1 I1 r ?_ ⟨m1, ρ, L1, ws, S1, F1, r1, q1⟩
    have e1 := r.length
    have e2 := r1.length
    omega


/-! ### built-in functions, methods -/
theorem cmpX_run (O : Ok T p C c X d) {op : COp} {x y : W} {Xw : XW} {σ : L2.St} {m : List Addr} {L : Hh} {H : Hp} {Q : VK} (h : run (T.g X) Xw σ (RelW X.K) (cmpX C op x y) m H L Q) : run (T.g X) Xw σ (RelW X.K) (cmpop op x y) m H L Q := by
  have du : ∀ (i : Nat) (o : W) (as : List W) (f : Bool → Bool) (Q : W → Hh → Prop) (E : W → Hh → Prop), ¬ wp (blM f (callDu C i o as)) L Q E := fun i o as f Q E z => by
    have z : wp (bnd (match (clsOf L o).bind fun c => C.du c i with
      | some t => C.call t (o :: as)
      | none => fail) fun r => match r with
      | .bl b => ret (.bl (f b))
      | _ => fail) L Q E := z
    have e : ((clsOf L o).bind fun c => C.du c i) = none := by
      cases clsOf L o with
      | none => rfl
      | some k => exact O.cf.du k i
    rw [e] at z
    exact z
  cases op <;> try exact h
  · rcases run_if (p := (clsOf L x).isSome = true) h with ⟨_, h⟩ | ⟨_, h⟩
    · exact absurd h (du _ _ _ _ _ _)
    · exact h
  · rcases run_if (p := (clsOf L x).isSome = true) h with ⟨_, h⟩ | ⟨_, h⟩
    · exact absurd h (du _ _ _ _ _ _)
    · exact h
  · rcases run_if (p := (clsOf L y).isSome = true) h with ⟨_, h⟩ | ⟨_, h⟩
    · exact absurd h (du _ _ _ _ _ _)
    · exact h
  · rcases run_if (p := (clsOf L y).isSome = true) h with ⟨_, h⟩ | ⟨_, h⟩
    · exact absurd h (du _ _ _ _ _ _)
    · exact h
theorem op_cmpX_ok (O : Ok T p C c X d) (op : COp) : OpR X (compareOp (copP op)) (rO2 (T.g X) (ofW Wx) (cmpX C op)) := fun pins s σ H x y v u Q I rx ry ⟨σ', m, L, a, b, S, ra, rb, h⟩ =>
  op_cmp_ok (T := T) (Xw := ofW Wx) (hu64 O.room) op pins s σ H x y v u Q I rx ry ⟨σ', m, L, a, b, S, ra, rb, cmpX_run O h⟩
theorem callBX_run (O : Ok T p C c X d) {b : Bi} {ws : List W} {Xw : XW} {σ : L2.St} {m : List Addr} {L : Hh} {H : Hp} {Q : VK} (h : run (T.g X) Xw σ (RelW X.K) (callBX C b ws) m H L Q) : run (T.g X) Xw σ (RelW X.K) (callB b ws) m H L Q := by
  have du : ∀ (i : Nat) (o : W) (k : W → M W) (Q : W → Hh → Prop) (E : W → Hh → Prop), ¬ wp (bnd (callDu C i o []) k) L Q E := fun i o k Q E z => by
    have z : wp (bnd (match (clsOf L o).bind fun c => C.du c i with
      | some t => C.call t (o :: [])
      | none => fail) k) L Q E := z
    have e : ((clsOf L o).bind fun c => C.du c i) = none := by
      cases clsOf L o with
      | none => rfl
      | some k => exact O.cf.du k i
    rw [e] at z
    exact z
  rcases ws with _ | ⟨w, _ | ⟨w2, ws⟩⟩
  · cases b <;> exact h
  · cases b <;> try exact h
    · rcases run_if (p := (clsOf L w).isSome = true) h with ⟨_, h⟩ | ⟨_, h⟩
      · exact absurd h (du _ _ _ _ _)
      · exact h
    · rcases run_if (p := (clsOf L w).isSome = true) h with ⟨_, h⟩ | ⟨_, h⟩
      · exact absurd h (du _ _ _ _ _)
      · exact h
  · cases b <;> exact h
theorem biV_kind (b : Bi) : (∃ id, biV b = .builtin id) ∨ ∃ t, biV b = .type t := by cases b <;> first | exact .inl ⟨_, rfl⟩ | exact .inr ⟨_, rfl⟩
theorem bi_boot (b : Bi) : bootBuiltins (biName b) = some (biV b) := by cases b <;> decide +kernel
theorem bi_ne (b : Bi) : biName b ≠ ("__name__" : Str) := by cases b <;> decide +kernel
theorem pe_bi (O : Ok T p C c X d) {b : Bi} {y : Str} {ps pos : Pos} {xs : List Ex} {e : Expr} {es : List Expr} (hb : bltB p c.sc y (biName b) = true) (hx : chkEs p c xs (e :: es) = true) (ha : PA X (e :: es) (tA T C Wx X xs)) :
    PE X (.Call (.Name y ps) (e :: es) [] pos) (tE T C Wx X (.bi b xs)) := by
  obtain ⟨rfl, g1, g2, g3⟩ := O.blt hb
  have hs : starEach (e :: es) X.env = (false, eval e X.env) :: starEach es X.env := by
    cases xs with
    | nil => simp [chkEs] at hx
    | cons x xs => simp only [chkEs, Bool.and_eq_true] at hx; exact star_plain hx.1 es X.env
  have hpl : (backTo pos (starEach es X.env)).any (·.1) = false := by
    cases xs with
    | nil => simp [chkEs] at hx
    | cons x xs => simp only [chkEs, Bool.and_eq_true] at hx; exact chkEs_star hx.2 X.env pos
  have cr := cr_ok (T := T) (Xw := ofW Wx) O.calm b
  have bt := bi_boot b
  have fin : ∀ σ H Q, tE T C Wx X (.bi b xs) σ H Q → tCB (rOs (T.g X) (ofW Wx) (callB b)) (tA T C Wx X xs) σ H Q := fun σ H Q q =>
    (tM_bnd (R' := RelWs X.K) q).imp fun vs H1 ⟨m1, ρ, L1, ws, S1, F1, r1, q1⟩ => ⟨σ, m1, L1, ws, S1, r1, callBX_run O q1⟩
  rcases biV_kind b with ⟨id, e1⟩ | ⟨id, e1⟩
  · rw [e1] at cr bt
    exact PE_imp (pe_callB cr g1 g2 bt ha (bi_ne b) g3 hs hpl) fin
  · rw [e1] at cr bt
    exact PE_imp (pe_callTy cr g1 g2 bt ha (bi_ne b) g3 hs hpl) fin
theorem noSup_base {o : Expr} (h : noSup o = true) (n : Str) (env : PySem.Env) (w : Sem Value) : attributeBase o n env w = w := by
  cases o <;> try rfl
  rename_i f as ks ps
  cases f <;> try rfl
  cases as with
  | cons a as => rfl
  | nil =>
    cases ks with
    | cons a as => rfl
    | nil => simp [noSup] at h
theorem pe_met {b : Bm} {apos cpos : Pos} {l : Expr} {o : Ex} {xs : List Ex} {es : List Expr} (hok : bmOk b = true) (hn : noSup l = true) (hline : (apos.endLine == cpos.line) = true) (hlen : es.length < 20) (hx : chkEs p c xs es = true) (ho : PE X l (tE T C Wx X o)) (ha : PA X es (tA T C Wx X xs)) :
    PE X (.Call (.Attribute l (bmName b) apos) es [] cpos) (tE T C Wx X (.met b o xs)) := by
  obtain ⟨s1, s2, s3⟩ := bm_slot hok
  have fin : ∀ σ H Q, tE T C Wx X (.met b o xs) σ H Q → tE T C Wx X o σ H fun x H1 => tyV X.K (bmT b) x H1 ∧ tA T C Wx X xs σ H1 fun ys H2 => rMs (T.g X) (ofW Wx) (callM b) x ys H2 Q := fun σ H Q q =>
    (tM_bnd (R' := RelW X.K) q).imp fun v H1 ⟨m1, ρ, L1, w, S1, F1, r1, q1⟩ => by
      have q1 : run (T.g X) (ofW Wx) σ (RelW X.K) (if rcvOk L1 b w then bnd (evEs C ρ xs) fun ws => callM b w ws else fail) m1 H1 L1 Q := q1
      rcases run_if q1 with ⟨c1, q1⟩ | ⟨_, q1⟩
      · exact ⟨rcv_ty S1 r1 c1, m1, ρ, L1, S1, F1, (run_bnd (R' := RelWs X.K) q1).imp fun vs H2 ⟨m2, L2, ws, e2, S2, r2, q2⟩ => ⟨σ, m2, L2, w, ws, S2, r1.mono e2, r2, q2⟩⟩
      · exact q1.elim
  cases es with
  | nil =>
    refine PE_imp (pe_bm0 s1 s2 s3 (mt_ok (T := T) (Xw := ofW Wx) b) ho (noSup_base hn _ _ _) hline) fun σ H Q q => ?_
    refine (fin σ H Q q).imp fun x H1 ⟨h1, m, ρ, L, S, F, q2⟩ => ⟨h1, ?_⟩
    have hx0 : xs = [] := by
      cases xs with
      | nil => rfl
      | cons x xs => simp [chkEs] at hx
    subst hx0
    exact run_ret (R := RelWs X.K) q2 S .nil
  | cons e es =>
    have hs : starEach (e :: es) X.env = (false, eval e X.env) :: starEach es X.env := by
      cases xs with
      | nil => simp [chkEs] at hx
      | cons x xs => simp only [chkEs, Bool.and_eq_true] at hx; exact star_plain hx.1 es X.env
    have hpl : (backTo cpos (starEach es X.env)).any (·.1) = false := by
      cases xs with
      | nil => simp [chkEs] at hx
      | cons x xs => simp only [chkEs, Bool.and_eq_true] at hx; exact chkEs_star hx.2 X.env cpos
    have hfew : ((backTo cpos (starEach (e :: es) X.env)).all (fun x => !x.1) && (backToKw cpos (keywordEach [] X.env)).all (fun x => x.1.isSome)
      && decide ((e :: es).length + ([] : List Keyword).length + (if ([] : List Keyword).isEmpty then 0 else 1) < 30)) = true := by
      have h1 := chkEs_star hx X.env cpos
      have h2 : (backTo cpos (starEach (e :: es) X.env)).all (fun x => !x.1) = true := by
        rw [List.all_eq_true]
        intro z hz
        have := List.any_eq_false.mp h1 z hz
        simpa using this
      have h3 : (e :: es).length + ([] : List Keyword).length + (if ([] : List Keyword).isEmpty then 0 else 1) < 30 := by
        simp only [List.length_nil, List.isEmpty_nil, if_true]
        omega
      rw [h2, decide_eq_true h3]
      rfl
    exact PE_imp (pe_bm s1 s2 s3 (mt_ok (T := T) (Xw := ofW Wx) b) ho ha (noSup_base hn _ _ _) hfew hline hs hpl) fin
/-! ### isinstance -/
theorem tyName_ok (O : Ok T p C c X d) {s : String} {n : Str} {ps : Pos} (h : bltB p c.sc n (Str.ofString s) = true) (ht : tyNames.contains s = true) : PE X (.Name n ps) (tC (.ty s)) := by
  obtain ⟨rfl, g1, g2, g3⟩ := O.blt h
  have hm := List.contains_iff_mem.mp ht
  exact pe_bltn g1 g2 (boot_nm s hm) rfl (ty_ne s hm).1 g3
theorem pe_isi' (O : Ok T p C c X d) {x : Ex} {s : String} {y n : Str} {ps ps2 pos : Pos} {l : Expr} (hb : bltB p c.sc y "isinstance" = true) (hn : bltB p c.sc n (Str.ofString s) = true) (ht : tyNames.contains s = true) (hl : chkE p c x l = true) (hx : PE X l (tE T C Wx X x)) :
    PE X (.Call (.Name y ps) [l, .Name n ps2] [] pos) (tE T C Wx X (.isi x (.ty s))) := by
  obtain ⟨rfl, g1, g2, g3⟩ := O.blt hb
  refine PE_imp (pe_callB call_isi g1 g2 PyProof.Rows.boot_isinstance (pa_cons hx (pa_cons (tyName_ok O hn ht) pa_nil) (star_plain hl _ X.env)) (by decide) g3 (star_plain hl _ X.env)) fun σ H Q q => ?_
  refine (tM_bnd (R' := RelW X.K) q).imp fun v H1 ⟨m1, ρ, L1, w, S1, F1, r1, q1⟩ => ?_
  have q1 : run (T.g X) (ofW Wx) σ (RelW X.K) (match (typeNm L1 w).map fun a => a == s || (a == "bool" && s == "int") with
    | some b => ret (.bl b)
    | none => fail) m1 H1 L1 Q := q1
  cases e : typeNm L1 w with
  | none => rw [e] at q1; exact q1.elim
  | some a =>
    rw [e] at q1
    obtain ⟨t1, t2⟩ := tyx_of S1 r1 e
    exact ⟨v, .ty s, .type a, .type s, _, rfl, .ty s, t1, kit_ty (kit_nm a t2 s (List.contains_iff_mem.mp ht)), run_val q1 S1 (.bl _)⟩
/-! ### what is walked -/
abbrev tI (T : Tab) (C : Env) (W : WX) (X : Cx) (it : It) : TI := tM (T.g X) W (SrcOk (T.g X)) fun ρ => evI C ρ it
theorem pi_e {x : Ex} {e tg : Expr} (hx : PE X e (tE T C Wx X x)) : PI X tg e (tI T C Wx X (.e x)) := by
  refine ⟨fun pins s σ H R I q => ?_⟩
  obtain ⟨m, ρ, L, S, F, q⟩ := q
  have q : run (T.g X) (ofW Wx) σ (SrcOk (T.g X)) (bnd (evE C ρ x) fun w => match w with
    | .ref l => gets fun L => (match itemsOf L (.ref l) with
      | some _ => ret (.seq l)
      | none => fail)
    | .tup ws => ret (.vals ws)
    | .str x => ret (.vals (signs x))
    | _ => fail) m H L R := q
  cases ev : evE C ρ x L with
  | bad => exact (run_bnd_bad q ev).elim
  | exc w L1 => exact (pi_list hx).run pins s σ H R I ⟨m, ρ, L, S, F, run_bnd_ex q ev⟩
  | ok w L1 =>
    have q1 := run_bnd_at (R' := RelW X.K) q ev
    cases w with
    | ref l =>
      refine (pi_list hx).run pins s σ H R I ⟨m, ρ, L, S, F, q1.imp fun v H1 ⟨m1, e1, S1, r1, q2⟩ => ?_⟩
      have q2 : run (T.g X) (ofW Wx) σ (SrcOk (T.g X)) (match itemsOf L1 (.ref l) with
        | some _ => ret (.seq l)
        | none => fail) m1 H1 L1 R := q2
      cases r1 with
      | ref hl =>
        split at q2
        · rename_i ws ew
          obtain ⟨xs, h1, _⟩ := S1.itemsL hl ew
          exact ⟨_, rfl, ⟨xs, h1⟩, run_ret (R := SrcOk (T.g X)) q2 S1 (src_seq hl)⟩
        · exact q2.elim
    | tup ws =>
      refine (pi_tup hx).run pins s σ H R I ⟨m, ρ, L, S, F, q1.imp fun v H1 ⟨m1, e1, S1, r1, q2⟩ => ?_⟩
      cases r1 with
      | tup h hr => exact ⟨_, rfl, ⟨_, sqT h⟩, run_ret (R := SrcOk (T.g X)) q2 S1 (src_tup (sqT h) hr)⟩
    | str z =>
      refine (pi_str hx).run pins s σ H R I ⟨m, ρ, L, S, F, q1.imp fun v H1 ⟨m1, e1, S1, r1, q2⟩ => ?_⟩
      cases r1
      exact ⟨_, rfl, run_ret (R := SrcOk (T.g X)) q2 S1 (src_str z)⟩
    | _ => exact (pi_list hx).run pins s σ H R I ⟨m, ρ, L, S, F, q1.imp fun v H1 ⟨m1, e1, S1, r1, q2⟩ => False.elim q2⟩
theorem smallR_le {i : Int} (h : smallR i = true) : -(2 ^ 62) ≤ i ∧ i < 2 ^ 62 := by
  simp only [smallR, Bool.and_eq_true, decide_eq_true_eq] at h
  exact h
theorem wp_evEs_two {ρ : Fr} {a b : Ex} {L : Hh} {Q : List W → Hh → Prop} {E : W → Hh → Prop} : wp (evEs C ρ [a, b]) L Q E = wp (evE C ρ a) L (fun x L1 => wp (evE C ρ b) L1 (fun y L2 => Q [x, y] L2) E) E := by
  simp only [evEs, wp_bnd, wp_ret]
theorem pi_rng1 (O : Ok T p C c X d) {x : Ex} {e tg : Expr} {y : Str} {ps pos : Pos} (hb : bltB p c.sc y "range" = true) (hx : chkEs p c [x] [e] = true) (ha : PA X [e] (tA T C Wx X [x])) : PI X tg (.Call (.Name y ps) [e] [] pos) (tI T C Wx X (.rng [x])) := by
  obtain ⟨rfl, g1, g2, g3⟩ := O.blt hb
  have hx := hx
  simp only [chkEs, Bool.and_eq_true] at hx
  refine ⟨fun pins s σ H R I q => (pi_range1 g1 g2 ha (star_plain hx.1 [] X.env)).run pins s σ H R I ?_⟩
  refine (tM_bnd_len q).imp fun vs H1 ⟨m1, ρ, L1, ws, S1, F1, r1, hl, q1⟩ => ?_
  cases ws with
  | nil => simp at hl
  | cons w ws =>
    cases ws with
    | cons _ _ => simp at hl
    | nil =>
      obtain ⟨v, rfl, rv⟩ := one_of (as := []) r1
      cases w <;> try exact False.elim q1
      cases rv
      rcases run_if q1 with ⟨c1, q1⟩ | ⟨_, q1⟩
      · obtain ⟨k1, k2⟩ := smallR_le c1
        exact ⟨_, rfl, k1, k2, run_ret (R := SrcOk (T.g X)) q1 S1 (src_rng 0 _)⟩
      · exact q1.elim
theorem pi_rng2 (O : Ok T p C c X d) {x x2 : Ex} {e e2 tg : Expr} {y : Str} {ps pos : Pos} (hb : bltB p c.sc y "range" = true) (hx : chkEs p c [x, x2] [e, e2] = true) (ha : PA X [e, e2] (tA T C Wx X [x, x2])) : PI X tg (.Call (.Name y ps) [e, e2] [] pos) (tI T C Wx X (.rng [x, x2])) := by
  obtain ⟨rfl, g1, g2, g3⟩ := O.blt hb
  have hx := hx
  simp only [chkEs, Bool.and_eq_true] at hx
  have h2 : starEach [e2] X.env = [(false, eval e2 X.env)] := star_plain hx.2.1 [] X.env
  refine ⟨fun pins s σ H R I q => (pi_range2 g1 g2 ha (by rw [star_plain hx.1 [e2] X.env, h2]) h2).run pins s σ H R I ?_⟩
  refine (tM_bnd_len q).imp fun vs H1 ⟨m1, ρ, L1, ws, S1, F1, r1, hl, q1⟩ => ?_
  cases ws with
  | nil => simp at hl
  | cons w ws =>
    cases ws with
    | nil => simp at hl
    | cons w2 ws =>
      cases ws with
      | cons _ _ => simp at hl
      | nil =>
        cases r1 with
        | cons ra rb =>
          obtain ⟨v, rfl, rv⟩ := one_of (as := []) rb
          cases w <;> cases w2 <;> try exact False.elim q1
          cases ra
          cases rv
          rcases run_if q1 with ⟨c1, q1⟩ | ⟨_, q1⟩
          · simp only [Bool.and_eq_true] at c1
            obtain ⟨k1, k2⟩ := smallR_le c1.1
            obtain ⟨k3, k4⟩ := smallR_le c1.2
            exact ⟨_, _, rfl, ⟨k1, k2, k3, k4⟩, run_ret (R := SrcOk (T.g X)) q1 S1 (src_rng _ _)⟩
          · exact q1.elim
theorem pi_en (O : Ok T p C c X d) {x : Ex} {e : Expr} {elts : List Expr} {kk : Nat} {tpos : Pos} {y : Str} {ps pos : Pos} (hb : bltB p c.sc y "enumerate" = true) (hx : chkE p c x e = true) (he : PE X e (tE T C Wx X x)) : PI X (.Tuple elts kk tpos) (.Call (.Name y ps) [e] [] pos) (tI T C Wx X (.enum x)) := by
  obtain ⟨rfl, g1, g2, g3⟩ := O.blt hb
  refine ⟨fun pins s σ H R I q => (pi_enum g1 g2 (pa_cons he pa_nil (star_plain hx [] X.env)) (star_plain hx [] X.env)).run pins s σ H R I ?_⟩
  refine (tM_bnd (R' := RelW X.K) q).imp fun v H1 ⟨m1, ρ, L1, w, S1, F1, r1, q1⟩ => ?_
  cases w <;> try exact False.elim q1
  rename_i l
  have q1 : run (T.g X) (ofW Wx) σ (SrcOk (T.g X)) (match itemsOf L1 (.ref l) with
    | some _ => ret (.enum l)
    | none => fail) m1 H1 L1 R := q1
  cases r1 with
  | ref hl =>
    split at q1
    · rename_i ws ew
      obtain ⟨xs, h1, _⟩ := S1.itemsL hl ew
      exact ⟨_, xs, rfl, h1, run_ret (R := SrcOk (T.g X)) q1 S1 (src_enum hl)⟩
    · exact q1.elim
theorem pi_zp (O : Ok T p C c X d) {x x2 : Ex} {e e2 : Expr} {elts : List Expr} {kk : Nat} {tpos : Pos} {y : Str} {ps pos : Pos} (hb : bltB p c.sc y "zip" = true) (hx : chkE p c x e = true) (hx2 : chkE p c x2 e2 = true) (he : PE X e (tE T C Wx X x)) (he2 : PE X e2 (tE T C Wx X x2)) :
    PI X (.Tuple elts kk tpos) (.Call (.Name y ps) [e, e2] [] pos) (tI T C Wx X (.zip x x2)) := by
  obtain ⟨rfl, g1, g2, g3⟩ := O.blt hb
  refine ⟨fun pins s σ H R I q => (RZ.pi_zipA g1 g2 (pa_cons he (pa_cons he2 pa_nil (star_plain hx2 [] X.env)) (star_plain hx _ X.env)) (star_plain hx _ X.env) (chkEs_star (p := p) (c := c) (xs := [x2]) (by simp [chkEs, hx2]) X.env pos)).run pins s σ H R I ?_⟩
  refine (tM_bnd (R' := RelW X.K) q).imp fun v H1 ⟨m1, ρ, L1, w, S1, F1, r1, q1⟩ => ⟨m1, ρ, L1, S1, F1, (run_bnd (R' := RelW X.K) q1).imp fun v2 H2 ⟨m2, L2, w2, e2, S2, r2, q2⟩ => ?_⟩
  have r1 := r1.mono e2
  cases w with
  | tup ws =>
    cases w2 with
    | tup ws2 =>
      cases r1 with
      | tup h hr =>
        cases r2 with
        | tup h2 hr2 => exact ⟨_, _, _, _, rfl, .inr ⟨sqT h, sqT h2, run_ret (R := SrcOk (T.g X)) q2 S2 (src_zipT (sqT h) (sqT h2) hr hr2)⟩⟩
    | _ => exact False.elim q2
  | ref l =>
    cases w2 with
    | ref l2 =>
      have q2 : run (T.g X) (ofW Wx) σ (SrcOk (T.g X)) (match itemsOf L2 (.ref l), itemsOf L2 (.ref l2) with
        | some _, some _ => ret (.zipL l l2)
        | _, _ => fail) m2 H2 L2 R := q2
      cases r1 with
      | ref hl =>
        cases r2 with
        | ref hl2 =>
          split at q2
          · rename_i ws ws2 ew ew2
            obtain ⟨xs, h1, _⟩ := S2.itemsL hl ew
            obtain ⟨xs2, h2, _⟩ := S2.itemsL hl2 ew2
            exact ⟨_, _, _, _, rfl, .inl ⟨h1, h2, run_ret (R := SrcOk (T.g X)) q2 S2 (src_zipL hl hl2)⟩⟩
          · exact q2.elim
    | _ => exact False.elim q2
  | _ => cases w2 <;> exact False.elim q2
/-! ### targets -/
def RG (K : PySem.W.Frag) (ix : List Nat) (σ0 : L2.St) : List Addr → Hp → Fr → L2.St → Prop := fun m H ρ σ => RelF K m H ρ σ ∧ σ.length = σ0.length ∧ ∀ i, i ∉ ix → σ[i]? = σ0[i]?
def tG (T : Tab) (C : Env) (W : WX) (X : Cx) (t : Tgt) : TG := fun v σ H Q => ∃ m ρ L w, Sim (T.g X) m L H ∧ RelF X.K m H ρ σ ∧ RelW X.K m H w v ∧ run (T.g X) (ofW W) σ (RG X.K (tgIx t) σ) (asgT C t w ρ) m H L Q
def tGs (T : Tab) (C : Env) (W : WX) (X : Cx) (ts : List Tgt) : TGs := fun vs σ H Q => ∃ m ρ L ws, Sim (T.g X) m L H ∧ RelF X.K m H ρ σ ∧ RelWs X.K m H ws vs ∧ run (T.g X) (ofW W) σ (RG X.K (tgIxs ts) σ) (asgTs C ts ws ρ) m H L Q
mutual
theorem pl_noexc : ∀ (t : Tgt), tgPl t = true → ∀ {w : W} {ρ : Fr} {L : Hh} {Q : Fr → Hh → Prop} {E E' : W → Hh → Prop}, wp (asgT C t w ρ) L Q E → wp (asgT C t w ρ) L Q E'
  | .nm i, h, w, ρ, L, Q, E, E', q => q
  | .tup ts, h, w, ρ, L, Q, E, E', q => by
    cases w with
    | tup ws => exact pl_noexcs ts h q
    | _ => exact False.elim q
  | .sub _ _, h, _, _, _, _, _, _, _ => by cases h
  | .fld _ _, h, _, _, _, _, _, _, _ => by cases h
theorem pl_noexcs : ∀ (ts : List Tgt), tgPls ts = true → ∀ {ws : List W} {ρ : Fr} {L : Hh} {Q : Fr → Hh → Prop} {E E' : W → Hh → Prop}, wp (asgTs C ts ws ρ) L Q E → wp (asgTs C ts ws ρ) L Q E'
  | [], h, ws, ρ, L, Q, E, E', q => by
    cases ws with
    | nil => exact q
    | cons w ws => exact False.elim q
  | t :: ts, h, ws, ρ, L, Q, E, E', q => by
    simp only [tgPls, Bool.and_eq_true] at h
    cases ws with
    | nil => exact False.elim q
    | cons w ws =>
      have q : wp (bnd (asgT C t w ρ) fun ρ1 => asgTs C ts ws ρ1) L Q E := q
      show wp (bnd (asgT C t w ρ) fun ρ1 => asgTs C ts ws ρ1) L Q E'
      rw [wp_bnd] at q ⊢
      exact pl_noexc t h.1 (wp_mono q (fun a L1 q1 => pl_noexcs ts h.2 q1) fun _ _ q => q)
end
theorem asgE_plain {x : Tgt} {e : Expr} (h : chkG p c x e = true) (es : List Expr) (env : PySem.Env) : assignEach (e :: es) env = (false, assign e env) :: assignEach es env := by
  cases e <;> first | rfl | (exfalso; revert h; cases x <;> simp [chkG])
theorem asgE_all : ∀ {xs : List Tgt} {es : List Expr}, chkGs p c xs es = true → ∀ (env : PySem.Env), (assignEach es env).length = xs.length ∧ (assignEach es env).findIdx? (·.1) = none
  | [], es, h, env => by
    cases es with
    | nil => exact ⟨rfl, rfl⟩
    | cons e es => simp [chkGs] at h
  | x :: xs, es, h, env => by
    cases es with
    | nil => simp [chkGs] at h
    | cons e es =>
      simp only [chkGs, Bool.and_eq_true] at h
      obtain ⟨h1, h2⟩ := asgE_all h.2 env
      rw [asgE_plain h.1]
      refine ⟨by simp [h1], ?_⟩
      rw [List.findIdx?_cons]
      simp [h2]
theorem wp_asgTs_len : ∀ {ts : List Tgt} {ws : List W} {ρ : Fr} {L : Hh} {Q : Fr → Hh → Prop}, wp (asgTs C ts ws ρ) L Q (fun _ _ => False) → ws.length = ts.length
  | [], ws, ρ, L, Q, h => by
    cases ws with
    | nil => rfl
    | cons w ws => exact False.elim h
  | t :: ts, ws, ρ, L, Q, h => by
    cases ws with
    | nil => exact False.elim h
    | cons w ws =>
      have h : wp (bnd (asgT C t w ρ) fun ρ1 => asgTs C ts ws ρ1) L Q (fun _ _ => False) := h
      rw [wp_bnd] at h
      cases e : asgT C t w ρ L with
      | ok r L1 =>
        unfold wp at h
        rw [e] at h
        have h2 : wp (asgTs C ts ws r) L1 Q (fun _ _ => False) := h
        simp [wp_asgTs_len h2]
      | exc x L1 => unfold wp at h; rw [e] at h; exact False.elim h
      | bad => unfold wp at h; rw [e] at h; exact False.elim h
/-- a run that raises nothing -/
def runF (g : G) {α β : Type} (R : List Addr → Hp → α → β → Prop) (c : M α) (m : List Addr) (H : Hp) (L : Hh) (Q : β → Hp → Prop) : Prop :=
  wp c L (fun a L' => ∀ m' H' b, Ext m H m' H' → Sim g m' L' H' → R m' H' a b → Q b H') fun _ _ => False
theorem run_F {α β : Type} {g : G} {Xw : XW} {σ : L2.St} {R : List Addr → Hp → α → β → Prop} {m : List Addr} {H : Hp} {L : Hh} {Q : β → Hp → Prop} {c : M α} (h : run g Xw σ R (noX c) m H L Q) : runF g R c m H L Q := by
  unfold run at h
  rw [wp_noX] at h
  exact h
theorem runF_assoc3 {α β γ δ ε : Type} {g : G} {R : List Addr → Hp → α → β → Prop} {m : List Addr} {H : Hp} {L : Hh} {Q : β → Hp → Prop} {a : M γ} {f : γ → M δ} {k : δ → M ε} {l : ε → M α} (h : runF g R (bnd (bnd (bnd a f) k) l) m H L Q) :
    runF g R (bnd a fun x => bnd (bnd (f x) k) l) m H L Q := by
  unfold runF at h ⊢
  simp only [wp_bnd] at h ⊢
  exact h
theorem runF_bnd {α β γ δ : Type} {g : G} {Xw : XW} {σ : L2.St} {R : List Addr → Hp → α → β → Prop} {R' : List Addr → Hp → γ → δ → Prop} {m0 m : List Addr} {H0 H : Hp} {L : Hh} {Q : β → Hp → Prop} {c : M γ} {f : γ → M α} (h : runF g R (bnd c f) m0 H0 L Q) :
    run g Xw σ R' c m H L (fun d H1 => ∃ m1 L1 a, Ext m H m1 H1 ∧ Sim g m1 L1 H1 ∧ R' m1 H1 a d ∧ runF g R (f a) m0 H0 L1 Q) := by
  unfold runF at h
  rw [wp_bnd] at h
  exact wp_mono h (fun a L1 q m1 H1 b e1 s1 r1 => ⟨m1, L1, a, e1, s1, r1, q⟩) fun _ _ q => q.elim
theorem Ext.notin {m m' : List Addr} {H H' : Hp} {D : Addr} {u : HO} (e : Ext m H m' H') (hD : D ∉ m) (hu : H D = some u) : D ∉ m' := by
  obtain ⟨k, rfl, hk⟩ := e.pre
  intro h
  rcases List.mem_append.mp h with q | q
  · exact hD q
  · rw [hk D q] at hu
    cases hu
theorem pts_ok {X : Cx} {cs : List Tx} {ifs : List Expr} (hl : ifs.length ≤ 1) (h : chkTs p c cs ifs = true) (ht : ∀ t ∈ cs, ∀ e, chkT p c t e = true → PT X e (tT T C Wx X t)) : PTs X ifs (tM (T.g X) Wx RB fun ρ => tsAnd C ρ cs) := by
  cases ifs with
  | nil =>
    cases cs with
    | cons t cs => simp [chkTs] at h
    | nil => exact ⟨fun pins s σ H Q I ⟨m, ρ, L, S, F, q⟩ => pts_nil.run pins s σ H Q I (run_ret (R := RB) q S rfl)⟩
  | cons e ifs =>
    cases ifs with
    | cons _ _ => simp at hl
    | nil =>
      cases cs with
      | nil => simp [chkTs] at h
      | cons t cs =>
        simp only [chkTs, Bool.and_eq_true] at h
        cases cs with
        | cons _ _ => simp [chkTs] at h
        | nil =>
          refine ⟨fun pins s σ H Q I q => (pts_one (ht t (by simp) e h.1)).run pins s σ H Q I ?_⟩
          refine (tM_bnd (R' := RB) q).imp fun k H1 ⟨m1, ρ, L1, w, S1, F1, r1, q1⟩ => ?_
          have r1 : w = k := r1
          subst r1
          cases w
          · rw [if_neg (by simp)] at q1; exact run_ret (R := RB) q1 S1 rfl
          · rw [if_pos rfl] at q1; exact run_ret (R := RB) q1 S1 rfl
/-- a comprehension's turns -/
theorem lc_turns {own : List (Str × Nat)} {t : Tgt} {it : It} {cs : List Tx} {x : Ex} (hown : tgOwn (own.map (·.2)) t = true) {σ : L2.St} {H : Hp} {Q : VK} (q : tE T C Wx X (.lc own t it cs x) σ H Q) :
    tLc (tI T C Wx X it) (tG T C WF X t) (tM (T.g X) WF RB fun ρ => tsAnd C ρ cs) (tE T C WF X x) (own.map (·.2)) σ H Q := by
  refine (tM_bnd (R' := SrcOk (T.g X)) q).imp fun J H1 ⟨m1, ρ, L1, s, S1, F1, sk, q1⟩ D hD => ?_
  have q1 := run_F q1
  obtain ⟨e0, S0⟩ := S1.free (u := .lst []) hD
  refine ⟨fun i n Hc => ∃ mm Lc ws xs, Ext m1 H1 mm Hc ∧ Sim (T.g X) mm Lc Hc ∧ D ∉ mm ∧ Hc D = some (.lst xs) ∧ RelWs X.K mm Hc ws xs ∧ runF (T.g X) (RelW X.K) (bnd (loopC s (fun w => bnd (asgT C t w (wipeF ρ (own.map (·.2)))) fun ρ1 => bnd (tsAnd C ρ1 cs) fun b => if b = true then bnd (evE C ρ1 x) fun v => ret (some v) else ret none) n i ws) fun ws => alloc (.lst ws)) m1 H1 Lc Q,
    ⟨fuel, m1, L1, [], [], e0, S0, S1.notIn hD, upd_same, .nil, q1⟩, ?_⟩
  rintro i n Hc ⟨mm, Lc, ws, xs, ex, S, hDm, hDl, rws, q2⟩
  cases n with
  | zero => exact q2.elim
  | succ n =>
    have q2 : runF (T.g X) (RelW X.K) (bnd (match srcAt Lc i s with
      | none => fail
      | some none => ret ws
      | some (some w) => bnd (bnd (asgT C t w (wipeF ρ (own.map (·.2)))) fun ρ1 => bnd (tsAnd C ρ1 cs) fun b => if b = true then bnd (evE C ρ1 x) fun v => ret (some v) else ret none) fun r => match r with
        | none => loopC s (fun w => bnd (asgT C t w (wipeF ρ (own.map (·.2)))) fun ρ1 => bnd (tsAnd C ρ1 cs) fun b => if b = true then bnd (evE C ρ1 x) fun v => ret (some v) else ret none) n (i + 1) ws
        | some v => if decide (ws.length < sizeLine) then loopC s (fun w => bnd (asgT C t w (wipeF ρ (own.map (·.2)))) fun ρ1 => bnd (tsAnd C ρ1 cs) fun b => if b = true then bnd (evE C ρ1 x) fun v => ret (some v) else ret none) n (i + 1) (ws ++ [v]) else fail) fun ws => alloc (.lst ws)) m1 H1 Lc Q := q2
    obtain ⟨k1, k2⟩ := sk mm Lc Hc ex.x0 S i
    cases es : srcAt Lc i s with
    | none => rw [es] at q2; exact q2.elim
    | some o =>
      cases o with
      | none =>
        left
        refine ⟨k2 es, ?_⟩
        rw [es] at q2
        have ea := ex.adopt hD
        have Sa : Sim (T.g X) (mm ++ [D]) (Lc ++ [.lst ws]) Hc := S.adopt hDm ⟨xs, hDl, rws.mono0 ⟨fun l a h => by
          obtain ⟨hl, _⟩ := List.getElem?_eq_some_iff.mp h
          rw [List.getElem?_append_left hl]
          exact h, fun _ _ h => h, fun _ _ _ h => h⟩⟩
        exact q2 _ _ _ ea Sa (.ref (by rw [← S.len]; simp))
      | some w =>
        right
        obtain ⟨g1, g2⟩ := k1 w es
        rw [es] at q2
        have q3 := runF_assoc3 q2
        refine ⟨g1, fun Hn => ∃ mm Lc ws xs, Ext m1 H1 mm Hn ∧ Sim (T.g X) mm Lc Hn ∧ D ∉ mm ∧ Hn D = some (.lst xs) ∧ RelWs X.K mm Hn ws xs ∧ runF (T.g X) (RelW X.K) (bnd (loopC s (fun w => bnd (asgT C t w (wipeF ρ (own.map (·.2)))) fun ρ1 => bnd (tsAnd C ρ1 cs) fun b => if b = true then bnd (evE C ρ1 x) fun v => ret (some v) else ret none) n (i + 1) ws) fun ws => alloc (.lst ws)) m1 H1 Lc Q,
          fun H' h => ⟨n, Nat.lt_succ_self n, h⟩, fun v H' y => ?_⟩
        obtain ⟨e2, S2, rw2⟩ := g2 v H' y
        have hD2 : H' D = some (.lst xs) := e2.out D _ hDl hDm (fun _ z => nomatch z)
        have ex2 := ex.trans e2
        refine ⟨mm, wipeF ρ (own.map (·.2)), Lc, w, S2, (F1.mono ex2).wipe _, rw2, ?_⟩
        refine (runF_bnd (R' := RG X.K (tgIx t) (wipe σ (own.map (·.2)))) (m := mm) (H := H') q3).imp fun σ3 H3 ⟨m3, L3, ρ3, e3, S3, ⟨F3, fl, fs⟩, q4⟩ => ?_
        have hD3 : H3 D = some (.lst xs) := e3.out D _ hD2 hDm (fun _ z => nomatch z)
        have hm3 : D ∉ m3 := e3.notin hDm hD2
        have ex3 := ex2.trans e3
        simp only [tgOwn, Bool.and_eq_true] at hown
        refine ⟨wipe_same (by rw [fl, wipe_length]) fun j hj => fs j fun hj2 => hj (by
          have := List.all_eq_true.mp hown.2 j hj2
          exact List.contains_iff_mem.mp this), m3, ρ3, L3, S3, F3, ?_⟩
        have q4 : runF (T.g X) (RelW X.K) (bnd (bnd (bnd (tsAnd C ρ3 cs) fun b => if b = true then bnd (evE C ρ3 x) fun v => ret (some v) else ret none) fun r => match r with
          | none => loopC s (fun w => bnd (asgT C t w (wipeF ρ (own.map (·.2)))) fun ρ1 => bnd (tsAnd C ρ1 cs) fun b => if b = true then bnd (evE C ρ1 x) fun v => ret (some v) else ret none) n (i + 1) ws
          | some v => if decide (ws.length < sizeLine) then loopC s (fun w => bnd (asgT C t w (wipeF ρ (own.map (·.2)))) fun ρ1 => bnd (tsAnd C ρ1 cs) fun b => if b = true then bnd (evE C ρ1 x) fun v => ret (some v) else ret none) n (i + 1) (ws ++ [v]) else fail) fun ws => alloc (.lst ws)) m1 H1 L3 Q := q4
        refine (runF_bnd (R' := RB) (m := m3) (H := H3) (runF_assoc3 q4)).imp fun b H4 ⟨m4, L4, b', e4, S4, eb, q5⟩ => ?_
        have eb : b' = b := eb
        subst eb
        have hD4 : H4 D = some (.lst xs) := e4.out D _ hD3 hm3 (fun _ z => nomatch z)
        have hm4 : D ∉ m4 := e4.notin hm3 hD3
        have ex4 := ex3.trans e4
        have rws4 := ((rws.mono e2).mono e3).mono e4
        cases b' with
        | false =>
          rw [if_neg (by simp)] at q5 ⊢
          exact ⟨m4, L4, ws, xs, ex4, S4, hm4, hD4, rws4, q5⟩
        | true =>
          rw [if_pos rfl] at q5 ⊢
          refine ⟨m4, ρ3, L4, S4, F3.mono e4, (runF_bnd (R' := RelW X.K) (m := m4) (H := H4) (runF_assoc3 q5)).imp fun y H5 ⟨m5, L5, w5, e5, S5, r5, q6⟩ => ?_⟩
          have hD5 : H5 D = some (.lst xs) := e5.out D _ hD4 hm4 (fun _ z => nomatch z)
          have hm5 : D ∉ m5 := e5.notin hm4 hD4
          have rws5 := rws4.mono e5
          obtain ⟨S6, x6⟩ := S5.apart (ys := xs ++ [y]) hm5 hD5
          have q6 : runF (T.g X) (RelW X.K) (bnd (if decide (ws.length < sizeLine) then loopC s (fun w => bnd (asgT C t w (wipeF ρ (own.map (·.2)))) fun ρ1 => bnd (tsAnd C ρ1 cs) fun b => if b = true then bnd (evE C ρ1 x) fun v => ret (some v) else ret none) n (i + 1) (ws ++ [w5]) else fail) fun ws => alloc (.lst ws)) m1 H1 L5 Q := q6
          by_cases hz : ws.length < sizeLine
          · rw [if_pos (decide_eq_true hz)] at q6
            exact ⟨xs, hD5, by rw [← rws.length]; exact hz, m5, L5, ws ++ [w5], xs ++ [y], (ex4.trans e5).apart hD, S6, hm5, upd_same, (rws5.append (.one r5)).mono0 x6, q6⟩
          · rw [if_neg (by simpa using hz)] at q6
            exact q6.elim

theorem pe_lcx (O : Ok T p C c X d) {own : List (Str × Nat)} {t : Tgt} {it : It} {cs : List Tx} {x : Ex} {elt tg iter : Expr} {ifs : List Expr} {scope : Scope} {pos : Pos} (hown : tgOwn (own.map (·.2)) t = true) (hb : blkC c.N c.sc scope own = true)
    (hi : PI X tg iter (tI T C Wx X it)) (hg : ∀ (s : Shared) (H : Hp) (Cc : Addr) (cl : List (Str × Addr)) (fp : List Addr), PG (X.blk s H scope (compEnvC scope cl Cc X.env) fp) tg (tG T C WF X t))
    (ht : ∀ (s : Shared) (H : Hp) (Cc : Addr) (cl : List (Str × Addr)) (fp : List Addr), PTs (X.blk s H scope (compEnvC scope cl Cc X.env) fp) ifs (tM (T.g X) WF RB fun ρ => tsAnd C ρ cs))
    (he : ∀ (s : Shared) (H : Hp) (Cc : Addr) (cl : List (Str × Addr)) (fp : List Addr), PE (X.blk s H scope (compEnvC scope cl Cc X.env) fp) elt (tE T C WF X x))
    (hs : ∀ v, foldedSetIterable iter X.env v = pure v) : PE X (.ListComp elt [⟨tg, iter, ifs, 0⟩] scope pos) (tE T C Wx X (.lc own t it cs x)) :=
  PE_imp (pe_lc O.calm (by rw [O.N]; exact O.nd) hi (blkOk_by (by rw [O.N, O.sc]; exact hb)) hg ht he hs) fun σ H Q q => lc_turns hown q
theorem noSet {x : It} {tg e : Expr} (h : chkI p c x tg e = true) (env : PySem.Env) (v : Value) : foldedSetIterable e env v = pure v := by
  cases e <;> first | rfl | skip
  exfalso
  cases x with
  | e x => simp only [chkI] at h; revert h; cases x <;> simp [chkE]
  | rng xs => simp [chkI] at h
  | enum x => cases tg <;> simp [chkI] at h
  | zip x y => cases tg <;> simp [chkI] at h
def clV : Cl → V
  | .ty s => .ty s
  | .own _ => .non
def clU : Cl → Value
  | .ty s => .type s
  | .own _ => .none
theorem cls_ok (O : Ok T p C c X d) : ∀ {cs : List Cl} {es : List Expr}, chkCls p c cs es = true → (PA X es fun _ H Q => Q (cs.map clV) H) ∧ Paired ClsV (cs.map clV) (cs.map clU) ∧ (∀ q ∈ cs, ∃ s, q = .ty s ∧ s ∈ tyNames) ∧ cs.length = es.length
  | [], es, h => by
    cases es with
    | cons e es => simp [chkCls] at h
    | nil => exact ⟨pa_nil, .nil, by simp, rfl⟩
  | .own _ :: cs, es, h => by simp [chkCls] at h
  | .ty s :: cs, es, h => by
    simp only [chkCls] at h
    split at h <;> try cases h
    simp only [Bool.and_eq_true] at h
    obtain ⟨⟨h1, h2⟩, h3⟩ := h
    obtain ⟨i1, i2, i3, i4⟩ := cls_ok O h3
    refine ⟨⟨fun pos pins st σ H Q I q => (pa_cons (tyName_ok O h1 h2) i1 rfl).run pos pins st σ H Q I q⟩, .cons (.ty s) i2, fun q hq => ?_, by simp [i4]⟩
    rcases List.mem_cons.mp hq with e | e
    · exact ⟨s, e, List.contains_iff_mem.mp h2⟩
    · exact i3 q e
theorem any_kit {L : Hh} {w : W} {a : String} (ha : typeNm L w = some a) (hm : a ∈ nmAll) {sb : Nat → Nat → Bool} {K : PySem.W.Frag} : ∀ {cs : List Cl} {b : Bool}, (∀ q ∈ cs, ∃ s, q = .ty s ∧ s ∈ tyNames) → anyKind sb L w cs = some b → PySem.W.kitAny K (.type a) (cs.map clU) = some b
  | [], b, _, h => by
    simp [anyKind] at h
    subst h
    rfl
  | q :: cs, b, hq, h => by
    obtain ⟨s, rfl, hs⟩ := hq q (by simp)
    simp only [anyKind, isKind, ha, Option.map_some] at h
    split at h
    · rename_i a1 b1 e1 e2
      simp only [Option.some.injEq] at e1 h
      subst e1 h
      have ih := any_kit ha hm (K := K) (fun q hq' => hq q (by simp [hq'])) e2
      refine kitAny_cons (kit_ty (kit_nm a hm s hs)) (fun e => ?_) fun e => ?_
      · rw [e, Bool.false_or]; exact ih
      · rw [e, Bool.true_or]
    · cases h
theorem pe_isis' (O : Ok T p C c X d) {x : Ex} {cs : List Cl} {y : Str} {ps pos tpos : Pos} {k : Nat} {l : Expr} {es : List Expr} (hb : bltB p c.sc y "isinstance" = true) (hc : chkCls p c cs es = true) (hl : chkE p c x l = true) (hx : PE X l (tE T C Wx X x)) :
    PE X (.Call (.Name y ps) [l, .Tuple es k tpos] [] pos) (tE T C Wx X (.isis x cs)) := by
  obtain ⟨rfl, g1, g2, g3⟩ := O.blt hb
  obtain ⟨c1, c2, c3, c4⟩ := cls_ok O hc
  refine PE_imp (pe_callB call_isiT g1 g2 PyProof.Rows.boot_isinstance (pa_cons hx (pa_cons (pe_tup c1) pa_nil) (star_plain hl _ X.env)) (by decide) g3 (star_plain hl _ X.env)) fun σ H Q q => ?_
  refine (tM_bnd (R' := RelW X.K) q).imp fun v H1 ⟨m1, ρ, L1, w, S1, F1, r1, q1⟩ => ?_
  have q1 : run (T.g X) (ofW Wx) σ (RelW X.K) (if cs ≠ [] ∧ cs.length < 64 then match anyKind C.sub L1 w cs with
    | some b => ret (.bl b)
    | none => fail else fail) m1 H1 L1 Q := q1
  rcases run_if q1 with ⟨⟨hne, hz⟩, q1⟩ | ⟨_, q1⟩
  · refine ⟨by rw [List.length_map, sizeLine_eq]; omega, fun tp htp => ?_⟩
    cases e : anyKind C.sub L1 w cs with
    | none => rw [e] at q1; exact q1.elim
    | some b =>
      rw [e] at q1
      obtain ⟨e2, S2⟩ := S1.free (u := .tup (cs.map clV)) htp
      cases ea : typeNm L1 w with
      | none =>
        cases cs with
        | nil => exact absurd rfl hne
        | cons q0 cs =>
          obtain ⟨s, rfl, hs⟩ := c3 q0 (by simp)
          simp [anyKind, isKind, ea] at e
      | some a =>
        obtain ⟨t1, t2⟩ := tyx_of S2 (r1.mono e2) ea
        exact ⟨v, tp, cs.map clV, .type a, cs.map clU, b, rfl, upd_same, c2, t1, any_kit ea t2 c3 e, q1.shift e2 _ _ _ (Ext.refl _ _) S2 (.bl _)⟩
  · exact q1.elim

theorem pts_ok1 {t : Tx} {cs : List Tx} {ifs : List Expr} (hl : ifs.length ≤ 1) (h : chkTs p c (t :: cs) ifs = true) (ht : ∀ e, chkT p c t e = true → PT X e (tT T C Wx X t)) : PTs X ifs (tM (T.g X) Wx RB fun ρ => tsAnd C ρ (t :: cs)) := by
  refine pts_ok hl h fun t' ht' => ?_
  cases ifs with
  | nil => simp [chkTs] at h
  | cons e ifs =>
    cases ifs with
    | cons _ _ => simp at hl
    | nil =>
      simp only [chkTs, Bool.and_eq_true] at h
      cases cs with
      | cons _ _ => simp [chkTs] at h
      | nil =>
        simp at ht'
        subst ht'
        exact ht
theorem pi_rngs (O : Ok T p C c X d) {xs : List Ex} {es : List Expr} {tg : Expr} {y : Str} {ps pos : Pos} (hb : bltB p c.sc y "range" = true) (hx : chkEs p c xs es = true) (hl : (es.length == 1 || es.length == 2) = true) (ha : PA X es (tA T C Wx X xs)) : PI X tg (.Call (.Name y ps) es [] pos) (tI T C Wx X (.rng xs)) := by
  have hn := chkEs_len hx
  cases es with
  | nil => simp at hl
  | cons e es =>
    cases xs with
    | nil => simp at hn
    | cons x xs =>
      cases es with
      | nil =>
        cases xs with
        | cons _ _ => simp at hn
        | nil => exact pi_rng1 O hb hx ha
      | cons e2 es =>
        cases xs with
        | nil => simp at hn
        | cons x2 xs =>
          cases es with
          | cons _ _ => simp at hl
          | nil =>
            cases xs with
            | cons _ _ => simp at hn
            | nil => exact pi_rng2 O hb hx ha
theorem PG_imp {e : Expr} {t t' : TG} (h : PG X e t) (k : ∀ v σ H Q, t' v σ H Q → t v σ H Q) : PG X e t' := ⟨fun pins s σ H v u Q I r q => h.run pins s σ H v u Q I r (k v σ H Q q)⟩
theorem PGs_imp {e : List Expr} {t t' : TGs} (h : PGs X e t) (k : ∀ v σ H Q, t' v σ H Q → t v σ H Q) : PGs X e t' := ⟨fun pins s σ H v u Q I r q => h.run pins s σ H v u Q I r (k v σ H Q q)⟩
theorem pg_nm (O : Ok T p C c X d) {i : Nat} {y : Str} {ps : Pos} (h1 : c.N[i]? = some y) (h2 : locB c.sc y = true) (h3 : c.asn.contains y = true) : PG X (.Name y ps) (tG T C Wx X (.nm i)) := by
  refine PG_imp (pg_name (i := i) (by rw [O.N]; exact O.nd) (by rw [O.N]; exact h1) (O.loc h2) (O.fnl (List.contains_iff_mem.mp h3) h2)) fun v σ H Q ⟨m, ρ, L, w, S, F, r, q⟩ => ?_
  exact run_ret (R := RG X.K (tgIx (.nm i)) σ) q S ⟨F.set r, by simp, fun j hj => List.getElem?_set_ne (fun z => hj (by simp [tgIx, z]))⟩
theorem pgs_nl : PGs X [] (tGs T C Wx X []) := by
  refine PGs_imp pgs_nil fun vs σ H Q ⟨m, ρ, L, ws, S, F, r, q⟩ => ?_
  cases ws with
  | cons _ _ => exact False.elim q
  | nil =>
    cases r
    exact ⟨rfl, run_ret (R := RG X.K (tgIxs []) σ) q S ⟨F, rfl, fun _ _ => rfl⟩⟩
theorem pgs_cn {t : Tgt} {ts : List Tgt} {e : Expr} {es : List Expr} (hp : tgPl t = true) (hps : tgPls ts = true) (hk : chkG p c t e = true) (h1 : PG X e (tG T C Wx X t)) (h2 : PGs X es (tGs T C Wx X ts)) : PGs X (e :: es) (tGs T C Wx X (t :: ts)) := by
  refine PGs_imp (pgs_cons h1 h2 (by rw [asgE_plain hk]; rfl)) fun vs σ H Q ⟨m, ρ, L, ws, S, F, r, q⟩ => ?_
  cases ws with
  | nil => exact False.elim q
  | cons w ws =>
    cases r with
    | @cons _ v _ vs ra rb =>
      have q : run (T.g X) (ofW Wx) σ (RG X.K (tgIxs (t :: ts)) σ) (bnd (asgT C t w ρ) fun ρ1 => asgTs C ts ws ρ1) m H L Q := q
      refine ⟨v, vs, rfl, m, ρ, L, w, S, F, ra, ?_⟩
      refine (run_bnd (R' := RG X.K (tgIx t) σ) q).imp fun σ1 H1 ⟨m1, L1, ρ1, e1, S1, ⟨F1, fl, fs⟩, q1⟩ => ?_
      refine ⟨m1, ρ1, L1, ws, S1, F1, rb.mono e1, ?_⟩
      have q2 := pl_noexcs ts hps (E' := fun e L' => ∀ m' H' cls d, Ext m1 H1 m' H' → Sim (T.g X) m' L' H' → (T.g X).rx m' H' e cls d → ofW Wx σ1 e cls d H') q1
      refine wp_mono q2 (fun a L' z m' H' σ' e' s' ⟨rf, rl, rs⟩ => z m' H' σ' e' s' ⟨rf, rl.trans fl, fun i hi => ?_⟩) fun _ _ z => z
      simp only [tgIxs, List.mem_append, not_or] at hi
      exact (rs i hi.2).trans (fs i hi.1)
theorem pg_tp (O : Ok T p C c X d) {ts : List Tgt} {es : List Expr} {k : Nat} {ps : Pos} (hp : tgPls ts = true) (hk : chkGs p c ts es = true) (h : PGs X es (tGs T C Wx X ts)) : PG X (.Tuple es k ps) (tG T C Wx X (.tup ts)) := by
  obtain ⟨a1, a2⟩ := asgE_all hk X.env
  refine PG_imp (pg_tup (n := ts.length) O.calm h a1 a2) fun v σ H Q ⟨m, ρ, L, w, S, F, r, q⟩ => ?_
  cases w with
  | tup ws =>
    cases r with
    | @tup a xs _ hs hr =>
      have q : run (T.g X) (ofW Wx) σ (RG X.K (tgIxs ts) σ) (asgTs C ts ws ρ) m H L Q := q
      refine ⟨a, xs, rfl, sqT hs, ?_, m, ρ, L, ws, S, F, hr, q⟩
      rw [← hr.length]
      exact wp_asgTs_len (pl_noexcs ts hp q)
  | _ => exact False.elim q
/-- o[i] = v: a list, a dict -/
theorem set_all (hu : X.A.units + 65 < cLine) : PSet X (fun o i v H Q => (∃ l xs k j, o = .ref l ∧ i = .int k ∧ H l = some (.lst xs) ∧ ixN xs.length k = some j ∧ Q (upd H l (.lst (xs.set j v)))) ∨ ∃ a H', o = .ref a ∧ DPut H a i v H' ∧ Q H') := by
  intro pins s σ H x y v ov iv u Q I rx ry rv h
  rcases h with ⟨l, xs, k, j, h1, h2, h3, h4, q⟩ | ⟨a, H', h1, h2, q⟩
  · exact set_list pins s σ H x y v ov iv u Q I rx ry rv ⟨l, xs, k, j, h1, h2, h3, h4, q⟩
  · subst h1
    obtain rfl : ov = Value.ref a := rx
    exact d_setItem (by omega) I h2 ry rv fun s4 I4 => ⟨H', I4, q⟩
theorem dput_ok {g : G} {m : List Addr} {L : Hh} {H : Hp} (S : Sim g m L H) {l : Nat} {a : Addr} (hl : m[l]? = some a) {tt : Bool} {kvs : List (Ky × W)} (e : L[l]? = some (.dct tt kvs)) {w z : W} {y v : V} (r : RelW g.K m H w y) {k : Ky} (hk : keyFit tt w = some k) (hz : kvs.length < sizeLine) (rv : RelW g.K m H z v) :
    ∃ H', DPut H a y v H' ∧ Ext m H m H' ∧ Sim g m (L.set l (.dct tt (dPut kvs k z))) H' := by
  cases tt with
  | false =>
    obtain ⟨qs, h1, h2, h3⟩ := S.ob l a _ hl e
    have hlen := congrArg List.length h2
    simp only [List.length_map] at hlen
    obtain ⟨q, rfl, rfl⟩ := keyK_ok r hk
    refine ⟨_, DPut.k h1 (by omega), S.put hl e rfl fun ex => ?_⟩
    obtain ⟨k1, k2⟩ := put_find kyK kyK_inj h2 (h3.mono ex) (rv.mono ex) q
    exact ⟨_, upd_same, k1, k2⟩
  | true =>
    obtain ⟨qs, h1, h2, h3⟩ := S.ob l a _ hl e
    have hlen := congrArg List.length h2
    simp only [List.length_map] at hlen
    obtain ⟨q, b, rfl, hb, rfl⟩ := keyT_ok r hk
    refine ⟨_, DPut.t h1 hb (by omega), S.put hl e rfl fun ex => ?_⟩
    obtain ⟨k1, k2⟩ := put_find kyT kyT_inj h2 (h3.mono ex) (rv.mono ex) q
    exact ⟨_, upd_same, k1, k2⟩
theorem pg_sb (O : Ok T p C c X d) {o i : Ex} {l r : Expr} {ps : Pos} (hi : chkE p c i r = true) (h1 : PE X l (tE T C Wx X o)) (h2 : PE X r (tE T C Wx X i)) : PG X (.Subscript l r ps) (tG T C Wx X (.sub o i)) := by
  refine PG_imp (pg_sub h1 h2 (set_all (hu64 O.room)) (by intro v; cases r <;> first | rfl | (rw [chk_slice] at hi; cases hi))) fun v σ H Q ⟨m, ρ, L, w, S, F, r, q⟩ => ?_
  have q : run (T.g X) (ofW Wx) σ (RG X.K (tgIx (.sub o i)) σ) (bnd (evE C ρ o) fun x => bnd (evE C ρ i) fun y => bnd (setItem x y w) fun _ => ret ρ) m H L Q := q
  refine ⟨m, ρ, L, S, F, (run_bnd (R' := RelW X.K) q).imp fun vo H1 ⟨m1, L1, x, e1, S1, r1, q1⟩ => ⟨m1, ρ, L1, S1, F.mono e1, (run_bnd (R' := RelW X.K) q1).imp fun vi H2 ⟨m2, L2, y, e2, S2, r2, q2⟩ => ?_⟩⟩
  have r1 := r1.mono e2
  have rw2 := (r.mono e1).mono e2
  have F2 := (F.mono e1).mono e2
  cases x with
  | ref l =>
    have q2 : run (T.g X) (ofW Wx) σ (RG X.K (tgIx (.sub o i)) σ) (bnd (match L2[l]? with
      | some (.lst ws) => (match y with
        | .int k => (match _root_.L2.ixN ws.length k with
          | some j => put l (.lst (ws.set j w))
          | none => fail)
        | _ => fail)
      | some (.dct tt kvs) => (match keyFit tt y with
        | some k => if decide (kvs.length < sizeLine) then put l (.dct tt (dPut kvs k w)) else fail
        | none => fail)
      | _ => fail) fun _ => ret ρ) m2 H2 L2 Q := q2
    cases r1 with
    | @ref _ a hl =>
      split at q2
      · rename_i ws e
        obtain ⟨k, rfl⟩ : ∃ k, y = .int k := by
          cases y with
          | int k => exact ⟨k, rfl⟩
          | _ => exact False.elim q2
        obtain ⟨xs, h1, rr⟩ := S2.lst hl e
        cases r2
        dsimp only at q2
        split at q2
        · rename_i j ej
          refine .inl ⟨a, xs, k, j, rfl, rfl, h1, by rw [← rr.length]; exact ej, ?_⟩
          obtain ⟨e3, S3⟩ := S2.put (o' := .lst (ws.set j w)) (u := .lst (xs.set j v)) hl e rfl fun e3 => ⟨_, upd_same, (rr.set rw2).mono e3⟩
          have q3 : wp (ret ρ) (L2.set l (.lst (ws.set j w))) (fun a L' => ∀ m' H' b, Ext m2 H2 m' H' → Sim (T.g X) m' L' H' → RG X.K (tgIx (.sub o i)) σ m' H' a b → Q b H') (fun e L' => ∀ m' H' cls d, Ext m2 H2 m' H' → Sim (T.g X) m' L' H' → (T.g X).rx m' H' e cls d → ofW Wx σ e cls d H') := q2
          exact q3 _ _ σ e3 S3 ⟨F2.mono e3, rfl, fun _ _ => rfl⟩
        · exact q2.elim
      · rename_i tt kvs e
        split at q2
        · rename_i k ek
          by_cases hz : kvs.length < sizeLine
          · rw [if_pos (decide_eq_true hz)] at q2
            obtain ⟨H', d1, e3, S3⟩ := dput_ok S2 hl e r2 ek hz rw2
            have q3 : wp (ret ρ) (L2.set l (.dct tt (dPut kvs k w))) (fun a L' => ∀ m' H' b, Ext m2 H2 m' H' → Sim (T.g X) m' L' H' → RG X.K (tgIx (.sub o i)) σ m' H' a b → Q b H') (fun e L' => ∀ m' H' cls d, Ext m2 H2 m' H' → Sim (T.g X) m' L' H' → (T.g X).rx m' H' e cls d → ofW Wx σ e cls d H') := q2
            exact .inr ⟨a, H', rfl, d1, q3 _ _ σ e3 S3 ⟨F2.mono e3, rfl, fun _ _ => rfl⟩⟩
          · rw [if_neg (by simpa using hz)] at q2
            exact q2.elim
        · exact q2.elim
      · exact q2.elim
  | _ => exact False.elim q2

/-- sorted(set(x)), x a text -/
theorem pe_srtset (O : Ok T p C c X d) {x : Ex} {y z : Str} {ps ps2 pos pos2 : Pos} {l : Expr} (hy : bltB p c.sc y "sorted" = true) (hz : bltB p c.sc z "set" = true) (hl : chkE p c x l = true) (hx : PE X l (tE T C Wx X x)) :
    PE X (.Call (.Name y ps) [.Call (.Name z ps2) [l] [] pos2] [] pos) (tE T C Wx X (.srtset x)) := by
  obtain ⟨rfl, g1, g2, g3⟩ := O.blt hy
  obtain ⟨rfl, k1, k2, k3⟩ := O.blt hz
  have inner := pe_callTy (p := ps2) (pos := pos2) (cr_setTxt O.calm) k1 k2 PyProof.Rows.boot_set (pa_cons hx pa_nil (star_plain hl _ X.env)) (by decide) k3 (star_plain hl _ X.env)
  refine PE_imp (pe_callB (cr_sortedSetTxt O.calm) g1 g2 PyProof.Rows.boot_sorted (pa_cons inner pa_nil) (by decide) g3) fun σ H Q q => ?_
  refine (tM_bnd (R' := RelW X.K) q).imp fun v H1 ⟨m1, ρ, L1, w, S1, F1, r1, q1⟩ => ?_
  cases w <;> try exact False.elim q1
  rename_i t
  cases r1
  rcases run_if q1 with ⟨c1, q1⟩ | ⟨_, q1⟩
  · have c1 := of_decide_eq_true c1
    have hb : scanBound = 4096 := rfl
    refine ⟨_, rfl, by rw [hb]; simp; omega, fun p n hp => ⟨p, _, n, rfl, upd_same, fun ys p2 so nd mem hl hp2 => ?_⟩⟩
    obtain ⟨e2, S2⟩ := S1.free (u := SetX X.prog X.w p (fun j => decide (j ∈ sgn ⟨t.toArray⟩)) n) hp
    have perm : ys.Perm ((dedup (t.map fun c => [c])).map tx) := by
      refine (List.perm_ext_iff_of_nodup nd (List.pairwise_map.mpr ((dedup_nodup _).imp fun h z => h (tx_inj z)))).mpr fun k => ?_
      rw [mem k, decide_eq_true_eq]
      have e3 : sgn (⟨t.toArray⟩ : Str) = (t.map fun c => [c]).map tx := sgn_tx t
      rw [e3, List.mem_map, List.mem_map]
      constructor
      · rintro ⟨a, ha, z⟩; exact ⟨a, dedup_mem.mpr ha, z⟩
      · rintro ⟨a, ha, z⟩; exact ⟨a, dedup_mem.mp ha, z⟩
    rw [sortT_eq perm so]
    exact run_new (q1.shift e2) S2 (rels_txt _) hp2
  · exact q1.elim


/-! ### fields, methods, instances -/
theorem cls_of (O : Ok T p C c X d) {k : Nat} {x : Str} (h : p.cls[k]? = some x) : T.CN.getD k Str.empty = x := by
  rw [O.cn, List.getD_eq_getElem?_getD, h]
  rfl
theorem fld_of (O : Ok T p C c X d) {k : Nat} {x : Str} (h : p.fld[k]? = some x) : T.FN.getD k Str.empty = x ∧ k < T.FN.length := by
  rw [O.fl, List.getD_eq_getElem?_getD, h]
  exact ⟨rfl, (List.getElem?_eq_some_iff.mp h).1⟩
theorem fnd_of (O : Ok T p C c X d) : T.FN.Nodup := by rw [O.fl]; exact O.cf.fnd
theorem pe_fldx (O : Ok T p C c X d) {o : Ex} {l : Expr} {n : Str} {f : Nat} {pos : Pos} (hn : noSup l = true) (hf : p.fld[f]? = some n) (ho : PE X l (tE T C Wx X o)) : PE X (.Attribute l n pos) (tE T C Wx X (.fld o f)) := by
  refine ⟨fun pins s σ H Q I q => ?_⟩
  refine attr_of (noSup_base hn _ _ _) (thn (ho.run pins s σ H _ I (tM_bnd (R' := RelW X.K) q)) fun u s1 ⟨v, H1, I1, rv, m1, ρ, L1, x, S1, F1, r1, q1⟩ => ?_)
  cases x <;> try exact False.elim q1
  rename_i l0
  have q1 : run (T.g X) (ofW Wx) σ (RelW X.K) (match L1[l0]? with
    | some (.ins k fs) => if C.cf k f = true then (match getFld fs f with
      | some w => ret w
      | none => fail) else fail
    | _ => fail) m1 H1 L1 Q := q1
  cases r1 with
  | @ref _ a hl =>
    obtain rfl : u = Value.ref a := rv
    split at q1
    · rename_i k fs e
      rcases run_if q1 with ⟨c1, q1⟩ | ⟨_, q1⟩
      · obtain ⟨cx, y, e1, e2, e3⟩ := O.cf.cf k f c1
        obtain rfl : n = y := by rw [hf] at e2; exact Option.some.inj e2
        obtain ⟨dx, qs, h1, h2, h3, h4, h9⟩ := S1.ob l0 a _ hl e
        have h1 : H1 a = some (.ins (He.ga X.K (T.CN.getD k Str.empty)) dx qs) := h1
        rw [cls_of O e1] at h1
        obtain ⟨f1, f2⟩ := fld_of O hf
        split at q1
        · rename_i w ew
          obtain ⟨v', lv, rr⟩ := lk_fld (fnd_of O) f2 h2 h3 h4 ew
          rw [f1] at lv
          exact getattr_ok I1 h1 (O.pg.cls cx (List.mem_of_getElem? e1)).2.cl (O.pg.noat _ e3) lv fun u' s2 I2 ru => ⟨v', H1, I2, ru, run_val q1 S1 rr⟩
        · exact q1.elim
      · exact q1.elim
    · exact q1.elim
/-- a field is stored -/
theorem setf_ok (O : Ok T p C c X d) {α : Type} {R : List Addr → Hp → Fr → α → Prop} {pins : List (Addr × Obj)} {s : Shared} {σ : L2.St} {H : Hp} {x w : W} {v : V} {u : Value} {f : Nat} {n : Str} {m : List Addr} {L : Hh} {k : Unit → M Fr} {ov : Value} {vo : V} {Q : α → Hp → Prop} {Q2 : Unit → Shared → Prop} {A : Around} {E : Value → Shared → Prop} {Xw : XW}
    (I : L2.Inv X pins σ H s) (S : Sim (T.g X) m L H) (hf : p.fld[f]? = some n) (rx : RelW X.K m H x vo) (ro : RelV vo ov) (rw' : RelW X.K m H w v) (ru : RelV v u) (q : run (T.g X) Xw σ R (bnd (setFld C x w f) k) m H L Q)
    (h : ∀ H' L' s', Ext m H m H' → Sim (T.g X) m L' H' → L2.Inv X pins σ H' s' → run (T.g X) Xw σ R (k ()) m H' L' Q → Q2 () s') : wpAny (model X.prog X.w) A (setAttr ov n u) Q2 E s := by
  cases x <;> try exact False.elim (run_bnd (R' := RU) q)
  rename_i l0
  have q : run (T.g X) Xw σ R (bnd (match L[l0]? with
    | some (.ins c fs) => if C.cf c f && decide (fs.length < 900) then put l0 (.ins c (putFld f w fs)) else fail
    | _ => fail) k) m H L Q := q
  cases rx with
  | @ref _ a hl =>
    obtain rfl : ov = Value.ref a := ro
    split at q
    · rename_i kc fs e
      by_cases c1 : (C.cf kc f && decide (fs.length < 900)) = true
      · rw [if_pos c1] at q
        simp only [Bool.and_eq_true, decide_eq_true_eq] at c1
        obtain ⟨cx, y, e1, e2, e3⟩ := O.cf.cf kc f c1.1
        obtain rfl : n = y := by rw [hf] at e2; exact Option.some.inj e2
        obtain ⟨dx, qs, h1, h2, h3, h4, h9⟩ := S.ob l0 a _ hl e
        have h1 : H a = some (.ins (He.ga X.K (T.CN.getD kc Str.empty)) dx qs) := h1
        have hlen : qs.length < 1000 := by
          have z := congrArg List.length h2
          simp only [List.length_map] at z
          omega
        obtain ⟨f1, f2⟩ := fld_of O hf
        have c2 : Cls X.K (He.ga X.K (T.CN.getD kc Str.empty)) := by rw [cls_of O e1]; exact (O.pg.cls cx (List.mem_of_getElem? e1)).2.cl
        have c3 : NoAttr X.K (He.ga X.K (T.CN.getD kc Str.empty)) n := by rw [cls_of O e1]; exact O.pg.noat _ e3
        obtain ⟨ex, S'⟩ := S.put (o' := .ins kc (putFld f w fs)) (u := .ins (He.ga X.K (T.CN.getD kc Str.empty)) dx (putF n v qs)) hl e rfl fun ex => by
          obtain ⟨k1, k2, k3⟩ := put_fld (fnd_of O) f2 (rw'.mono ex) h2 h3 (h4.mono ex)
          rw [f1] at k1 k3
          exact ⟨dx, putF n v qs, upd_same, k1, k2, k3, h9⟩
        refine setattr_ok I h1 c2 c3 hlen ru fun s' I' => h _ _ s' ex S' I' ?_
        have q : wp (k ()) (L.set l0 (.ins kc (putFld f w fs))) _ _ := q
        exact wp_mono q (fun _ _ z m' H' b e' s r => z m' H' b (ex.trans e') s r) fun _ _ z m' H' cls dd e' s r => z m' H' cls dd (ex.trans e') s r
      · rw [if_neg c1] at q
        exact False.elim (run_bnd (R' := RU) q)
    · exact False.elim (run_bnd (R' := RU) q)
theorem pg_fl (O : Ok T p C c X d) {o : Ex} {l : Expr} {n : Str} {f : Nat} {pos : Pos} (hf : p.fld[f]? = some n) (ho : PE X l (tE T C Wx X o)) : PG X (.Attribute l n pos) (tG T C Wx X (.fld o f)) := by
  refine ⟨fun pins s σ H v u Q I r q => ?_⟩
  obtain ⟨m, ρ, L, w, S, F, rw', q⟩ := q
  have q : run (T.g X) (ofW Wx) σ (RG X.K (tgIx (.fld o f)) σ) (bnd (evE C ρ o) fun x => bnd (setFld C x w f) fun _ => ret ρ) m H L Q := q
  have ha : assign (.Attribute l n pos) X.env u = (do
      let ov ← holding [u] (eval l X.env)
      standAt pos.atName
      holding [u, ov] (setAttr ov n u)
      release [u, ov] []) := rfl
  rw [ha]
  refine wpAny_bind (wpAny_holding (thn (ho.run pins s σ H _ I ⟨m, ρ, L, S, F, run_bnd (R' := RelW X.K) q⟩) fun ov s1 ⟨vo, H1, I1, ro, m1, L1, x, e1, S1, r1, q1⟩ => ?_))
  refine wpAny_bind (wpAny_standAt (wpAny_bind (wpAny_holding ?_)))
  refine setf_ok O I1 S1 hf r1 ro (rw'.mono e1) r q1 fun H' L' s' ex S' I' q2 => ?_
  exact wpAny_release ⟨σ, H', I', q2 _ _ σ (Ext.refl _ _) S' ⟨(F.mono e1).mono ex, rfl, fun _ _ => rfl⟩⟩
theorem kw_few {ks : List Keyword} {kws : List Str} (h : ks.map (·.arg) = kws.map some) {xs : List Ex} {es : List Expr} (hx : chkEs p c xs es = true) (env : PySem.Env) (pos : Pos) (hn : es.length + ks.length < 20) : methodCallForm (es.length + ks.length) (backTo pos (starEach es env)) (backToKw pos (keywordEach ks env)) = true := by
  unfold methodCallForm
  have h1 := chkEs_star hx env pos
  have h2 : (backTo pos (starEach es env)).all (fun x => !x.1) = true := by
    rw [List.all_eq_true]
    intro z hz
    have := List.any_eq_false.mp h1 z hz
    simpa using this
  rw [h2, (kw_all h env pos).1]
  simp
  split <;> omega
theorem mcall_tree {ks : List Keyword} {kws : List Str} (h : ks.map (·.arg) = kws.map some) {xs : List Ex} {es : List Expr} (hx : chkEs p c xs es = true) {l : Expr} {n : Str} {apos pos : Pos} (hs : noSup l = true) (hl : (apos.endLine == pos.line) = true) (hn : es.length + ks.length < 20) (env : PySem.Env) :
    eval (.Call (.Attribute l n apos) es ks pos) env = (do
      let ov ← eval l env
      standAt apos.atName
      let (f, first) ← holding [ov] (getMethod ov n (do return (← importBound l env).getD true))
      callWith pos f first (backTo pos (starEach es env)) (backToKw pos (keywordEach ks env))) := by
  rw [arm_eval_Call, noSup_base hs]
  unfold methodCall
  rw [kw_few h hx env pos hn]
  unfold methodCallPos calleeOf
  rw [hl]
  rfl
theorem pe_mcallx (O : Ok T p C c X d) (tk : Takes X Wx) {mi : Nat} {nm : Str} {np : Nat} {kws : List Str} {o : Ex} {xs ys : List Ex} {l : Expr} {es : List Expr} {ks : List Keyword} {apos pos : Pos} (hm : p.mf[mi]? = some (nm, np, kws)) (hs : noSup l = true) (hl : (apos.endLine == pos.line) = true) (hn : es.length + ks.length < 20) (hnp : es.length = np)
    (hk : ks.map (·.arg) = kws.map some) (hx : chkEs p c xs es = true) (hy : chkEs p c ys (ks.map (·.value)) = true) (ho : PE X l (tE T C Wx X o)) (ha : PA X es (tA T C Wx X xs)) (hka : PK X ks (tA T C Wx X ys)) :
    PE X (.Call (.Attribute l nm apos) es ks pos) (tE T C Wx X (.mcall mi o xs ys)) := by
  refine ⟨fun pins s σ H Q I q => ?_⟩
  refine PySem.W.methodCall_KW (thn (ho.run pins s σ H _ I (tM_bnd (R' := RelW X.K) q)) fun u s1 ⟨v, H1, I1, rv, m1, ρ, L1, x, S1, F1, r1, q1⟩ => ?_) (mcall_tree hk hx hs hl hn X.env)
  have q1 : run (T.g X) (ofW Wx) σ (RelW X.K) (match (clsOf L1 x).bind fun c => C.mt c mi with
    | some t => bnd (evEs C ρ xs) fun ws => bnd (evEs C ρ ys) fun zs => C.call t (x :: (ws ++ zs))
    | none => fail) m1 H1 L1 Q := q1
  cases x with
  | ref l0 =>
    cases r1 with
    | @ref _ a hl0 =>
      obtain rfl : u = Value.ref a := rv
      cases e : L1[l0]? with
      | none => have e2 : clsOf L1 (.ref l0) = none := by unfold clsOf; dsimp only; rw [e]
                rw [e2] at q1; exact False.elim q1
      | some ob =>
        cases ob with
        | ins kc fs =>
          have e2 : clsOf L1 (.ref l0) = some kc := by unfold clsOf; dsimp only; rw [e]
          rw [e2] at q1
          cases et : C.mt kc mi with
          | none => have e3 : ((some kc).bind fun c => C.mt c mi) = none := et
                    rw [e3] at q1; exact False.elim q1
          | some t =>
            have e3 : ((some kc).bind fun c => C.mt c mi) = some t := et
            rw [e3] at q1
            obtain ⟨cx, nm', np', kws', gt, g1, g2, g3, g4, g5, g6, g7, g8⟩ := O.cf.mt kc mi t et
            rw [hm] at g2
            cases g2
            obtain ⟨dx, qs, h1, h2, h3, h4, h9⟩ := S1.ob l0 a _ hl0 e
            have h1 : H1 a = some (.ins (He.ga X.K (T.CN.getD kc Str.empty)) dx qs) := h1
            rw [cls_of O g1] at h1
            have lk : qs.lookup nm = none := lk_none (FN := T.FN) (by rw [O.fl]; exact g8) h2 h3
            obtain ⟨t1, _, t3⟩ := O.tg t gt g3
            have ead : gt.at_.ad X.K = He.ma X.K (He.ga X.K cx) nm := by rw [g4]; rfl
            rw [ead] at t1 t3
            rw [g5, g6] at t3
            have M := O.pg.meth _ g7
            refine getmeth_ok I1 h1 (O.pg.cls cx (List.mem_of_getElem? g1)).2.cl M lk ?_
            obtain ⟨k1, k2, k3⟩ := kw_all hk X.env pos
            have fin : ∀ (us : List Value) (s2 : Shared) (vs : List V) (H2 : Hp), L2.Inv X pins σ H2 s2 → Vals vs us → us.length = np → (∃ m2 ρ L2 ws, Ext m1 H1 m2 H2 ∧ Sim (T.g X) m2 L2 H2 ∧ RelF X.K m2 H2 ρ σ ∧ RelWs X.K m2 H2 ws vs ∧ run (T.g X) (ofW Wx) σ (RelW X.K) (bnd (evEs C ρ ys) fun zs => C.call t (.ref l0 :: (ws ++ zs))) m2 H2 L2 Q) →
                wpAny (model X.prog X.w) X.A (evalAll ((backToKw pos (keywordEach ks X.env)).map (·.2))) (fun zs s3 => X.K.In s3.heap ∧ wpAny (model X.prog X.w) X.A (call (.ref (He.ma X.K (He.ga X.K cx) nm)) ([.ref a] ++ us) (((backToKw pos (keywordEach ks X.env)).filterMap (·.1)).zip zs)) (EP X pins σ Q) X.xe s3) X.xe s2 := by
              intro us s2 vs H2 I2 rr hlen ⟨m2, ρ2, L2', ws, e12, S2, F2, rw2, q2⟩
              refine thn (hka.run pos pins s2 σ H2 _ I2 ⟨m2, ρ2, L2', S2, F2, run_bnd_len q2⟩) fun zs s3 ⟨zv, H3, I3, r3, m3, L3, as, e23, S3, rz, hla, q3⟩ => ⟨I3.kIn, ?_⟩
              rw [k2]
              have hz : zs.length = kws.length := by
                have e3 := congrArg List.length hk
                have e6 := chkEs_len hy
                simp only [List.length_map] at e3 e6
                have e4 : zs.length = zv.length := r3.length.symm
                have e5 := rz.length
                omega
              refine wpAny_call (call_at tk t3 (vs := .ref a :: vs) (us := .ref a :: us) (O.room.mono (by omega)) I3.env0 I3 (.cons rfl rr) r3 (by simp [hlen]) hz S3 (.cons ((RelW.ref hl0).mono (e12.trans e23)) ((rw2.mono e23).append rz)) q3)
            have q1 := run_bnd_len q1
            cases es with
            | nil =>
              refine PySem.W.callWith_KW0 (first := [.ref a]) (h₀ := X.base) I.ok.mod.kin M.kp k1 ?_ (by rw [k3]; rfl)
              have hx0 : xs = [] := by
                cases xs with
                | nil => rfl
                | cons x xs => simp [chkEs] at hx
              subst hx0
              obtain ⟨m2, L2', ws, e12, S2, rr, hl1, q2⟩ := run_ret (R := RelWs X.K) q1 S1 .nil
              exact fin [] s1 [] H1 I1 .nil (by simpa using hnp) ⟨m2, ρ, L2', ws, e12, S2, F1.mono e12, rr, q2⟩
            | cons e0 rest =>
              have he := (chkEs_head hx X.env)
              have he : starEach (e0 :: rest) X.env = (false, eval e0 X.env) :: starEach rest X.env := by
                rcases he with he | ⟨e1, r1, he1, he2⟩
                · cases he
                · cases he1; exact he2
              refine PySem.W.callWith_KW (first := [.ref a]) (h₀ := X.base) I.ok.mod.kin M.kp k1 (thn (ha.run pos pins s1 σ H1 _ I1 ⟨m1, ρ, L1, S1, F1, q1⟩) fun us s2 ⟨vs, H2, I2, rr, m2, L2', ws, e12, S2, rw2, hl1, q2⟩ => ?_) (by rw [k3, chkEs_star hx]; rfl) he
              refine fin us s2 vs H2 I2 rr ?_ ⟨m2, ρ, L2', ws, e12, S2, F1.mono e12, rw2, q2⟩
              have e1 := rr.length
              have e2 := rw2.length
              have e3 := chkEs_len hx
              omega
        | _ => have e2 : clsOf L1 (.ref l0) = none := by unfold clsOf; dsimp only; rw [e]
               rw [e2] at q1; exact False.elim q1
  | _ => exact False.elim q1
/-- C(..): a new instance -/
theorem pe_mkx (O : Ok T p C c X d) (tk : Takes X Wx) {k : Nat} {y : Str} {np : Nat} {kws : List Str} {xs ys : List Ex} {es : List Expr} {ks : List Keyword} {ps pos : Pos} (hm : p.mkf[k]? = some (y, np, kws)) (g1 : Gl X y) (g2 : (y == ("__debug__" : Str)) = false) (hc : y ∈ p.cls) (hmk : y ∈ p.mkrL) (hnp : es.length = np)
    (hk : ks.map (·.arg) = kws.map some) (hx : chkEs p c xs es = true) (hy : chkEs p c ys (ks.map (·.value)) = true) (ha : PA X es (tA T C Wx X xs)) (hka : PK X ks (tA T C Wx X ys)) :
    PE X (.Call (.Name y ps) es ks pos) (tE T C Wx X (.mk k xs ys)) := by
  refine ⟨fun pins s σ H Q I q => ?_⟩
  refine wpAny_Call_Name_kw (ld_glob I g1 (O.pg.cls y hc).1 ?_ g2)
  obtain ⟨k1, k2, k3⟩ := kw_all hk X.env pos
  have M := O.pg.mkr _ hmk
  have fin : ∀ (us : List Value) (s1 : Shared) (vs : List V) (H1 : Hp), L2.Inv X pins σ H1 s1 → Vals vs us → us.length = np → (∃ m1 ρ L1 ws, Sim (T.g X) m1 L1 H1 ∧ RelF X.K m1 H1 ρ σ ∧ RelWs X.K m1 H1 ws vs ∧ run (T.g X) (ofW Wx) σ (RelW X.K) (bnd (evEs C ρ ys) fun zs => makeOf C k (ws ++ zs)) m1 H1 L1 Q) →
      wpAny (model X.prog X.w) X.A (evalAll ((backToKw pos (keywordEach ks X.env)).map (·.2))) (fun zs s2 => X.K.In s2.heap ∧ wpAny (model X.prog X.w) X.A (call (.ref (He.ga X.K y)) us (((backToKw pos (keywordEach ks X.env)).filterMap (·.1)).zip zs)) (EP X pins σ Q) X.xe s2) X.xe s1 := by
    intro us s1 vs H1 I1 r1 hl ⟨m1, ρ, L1, ws, S1, F1, rw1, q1⟩
    refine thn (hka.run pos pins s1 σ H1 _ I1 ⟨m1, ρ, L1, S1, F1, run_bnd_len q1⟩) fun zs s2 ⟨zv, H2, I2, r2, m2, L2', as, e2, S2, rz, hla, q2⟩ => ⟨I2.kIn, ?_⟩
    rw [k2]
    have hz : zs.length = kws.length := by
      have e3 := congrArg List.length hk
      have e6 := chkEs_len hy
      simp only [List.length_map] at e3 e6
      have e4 : zs.length = zv.length := r2.length.symm
      have e5 := rz.length
      omega
    cases em : C.mks k with
    | none =>
      have z : makeOf C k (ws ++ as) = fail := by unfold makeOf; rw [em]
      rw [z] at q2
      exact q2.elim
    | some ct =>
      obtain ⟨kc, t⟩ := ct
      obtain ⟨cx, np', kws', gt, h1, h2, h3, h4, h5, h6, h7⟩ := O.cf.mks k kc t em
      rw [hm] at h2
      cases h2
      have t3 := O.tgm t gt h3
      have ead : gt.at_.ad X.K = He.ma X.K (He.ga X.K y) "__init__" := by rw [h4]; rfl
      rw [ead, h5, h6] at t3
      have q2 : run (T.g X) (ofW Wx) σ (RelW X.K) (bnd (alloc (.ins kc [])) fun o => bnd (C.callM t (o :: (ws ++ as))) fun r => match r with
        | .non => ret o
        | _ => fail) m2 H2 L2' Q := by
        have e : makeOf C k (ws ++ as) = bnd (alloc (.ins kc [])) fun o => bnd (C.callM t (o :: (ws ++ as))) fun r => match r with
          | .non => ret o
          | _ => fail := by unfold makeOf; rw [em] <;> rfl
        rw [← e]
        exact q2
      have n0 : H2 s2.heap.objs.size = none := I2.hok.fresh (Nat.le_refl _)
      have n1 : H2 (s2.heap.objs.size + 1) = none := I2.hok.fresh (Nat.le_succ _)
      have ne : s2.heap.objs.size ≠ s2.heap.objs.size + 1 := Nat.ne_of_lt (Nat.lt_succ_self _)
      obtain ⟨ea, Sa⟩ := S2.free (u := .own (s2.heap.objs.size + 1)) n0
      have n1' : upd H2 s2.heap.objs.size (.own (s2.heap.objs.size + 1)) (s2.heap.objs.size + 1) = none := by rw [upd_ne (Ne.symm ne)]; exact n1
      obtain ⟨eb, Sb⟩ := Sa.new (u := .ins (He.ga X.K y) s2.heap.objs.size []) (o := .ins kc []) n1' ⟨s2.heap.objs.size, [], by rw [upd_same]; show some (HO.ins (He.ga X.K y) _ []) = some (HO.ins (He.ga X.K (T.CN.getD kc Str.empty)) _ []); rw [cls_of O h1], rfl, fun _ z => by simp at z, .nil, by show kc < T.CN.length; rw [O.cn]; exact (List.getElem?_eq_some_iff.mp h1).1⟩
      have eab := ea.trans eb
      have I3 := L2.Inv.made (C := He.ga X.K y) I2
      have q3 : run (T.g X) (ofW Wx) σ (RelW X.K) (bnd (C.callM t (.ref L2'.length :: (ws ++ as))) fun r => match r with
        | .non => ret (.ref L2'.length)
        | _ => fail) (m2 ++ [s2.heap.objs.size + 1]) (upd (upd H2 s2.heap.objs.size (.own (s2.heap.objs.size + 1))) (s2.heap.objs.size + 1) (.ins (He.ga X.K y) s2.heap.objs.size [])) (L2' ++ [.ins kc []]) Q := run.shift eab q2
      have rs : RelW X.K (m2 ++ [s2.heap.objs.size + 1]) (upd (upd H2 s2.heap.objs.size (.own (s2.heap.objs.size + 1))) (s2.heap.objs.size + 1) (.ins (He.ga X.K y) s2.heap.objs.size [])) (.ref L2'.length) (.ref (s2.heap.objs.size + 1)) := .ref (by rw [← S2.len]; simp)
      have hr : Room d (X.A.under (.builtin "type.__call__" ⟨.ref (He.ga X.K y) :: us, kws.zip zs⟩)) := O.room.make _ _ _
      have cal := t3 _ X.stack _ _ (.ref (s2.heap.objs.size + 1) :: us) zs (.ref (s2.heap.objs.size + 1) :: vs) zv (fun v H' => v = .non ∧ Q (.ref (s2.heap.objs.size + 1)) H') (WE Wx σ) _ _ (.ref L2'.length :: (ws ++ as)) σ hr (I3.env0.make _ us (kws.zip zs)) (.cons rfl r1) r2 (by simp [hl]) hz Sb
        (.cons rs (((rw1.mono e2).append rz).mono eab)) ((run_bnd (R' := RelW X.K) q3).imp fun v H' ⟨m4, L4, w, e4, S4, r4, q4⟩ => by
          cases w <;> try exact False.elim q4
          cases r4
          exact ⟨rfl, run_val q4 S4 (rs.mono e4)⟩)
      refine wpAny_call (make_map I2.kIn M.makes M.init (beq_iff_eq.mp M.fn) (codeAny_mono cal fun r s' hq => ?_))
      cases r with
      | error e => exact passAt tk σ pins _ _ e s' I3 hq
      | ok fl =>
        cases fl with
        | ret u =>
          obtain ⟨v, H', I4, rv, ev, q5⟩ := I3.after hq
          subst ev
          exact ⟨rv, ⟨.ref (s2.heap.objs.size + 1), H', I4, rfl, q5⟩⟩
        | next => exact False.elim hq
        | brk => exact False.elim hq
        | cont => exact False.elim hq
  have q := tM_bnd_len q
  cases es with
  | nil =>
    refine PySem.W.callWith_KW0 (h₀ := X.base) I.ok.mod.kin M.kp k1 ?_ (by rw [k3]; rfl)
    have hx0 : xs = [] := by
      cases xs with
      | nil => rfl
      | cons x xs => simp [chkEs] at hx
    subst hx0
    obtain ⟨m, ρ, L, S, F, q⟩ := q
    obtain ⟨m1, ρ1, L1, ws, S1, F1, r1, hl1, q1⟩ := run_ret (R := RelWs X.K) q S .nil
    exact fin [] s [] H I .nil (by simpa using hnp) ⟨m1, ρ1, L1, ws, S1, F1, r1, q1⟩
  | cons e0 rest =>
    have he : starEach (e0 :: rest) X.env = (false, eval e0 X.env) :: starEach rest X.env := by
      rcases chkEs_head hx X.env with he | ⟨e1, r1, he1, he2⟩
      · cases he
      · cases he1; exact he2
    refine PySem.W.callWith_KW (h₀ := X.base) I.ok.mod.kin M.kp k1 (thn (ha.run pos pins s σ H _ I q) fun us s1 ⟨vs, H1, I1, r, m1, ρ, L1, ws, S1, F1, r1, hl1, q1⟩ => ?_) (by rw [k3, chkEs_star hx]; rfl) he
    refine fin us s1 vs H1 I1 r ?_ ⟨m1, ρ, L1, ws, S1, F1, r1, q1⟩
    have e1 := r.length
    have e2 := r1.length
    have e3 := chkEs_len hx
    omega

/-! ### displays, f-strings, written dicts -/
theorem pe_revx {x : Ex} {l : Expr} {k : Nat} {p1 p2 p3 pos : Pos} (hx : PE X l (tE T C Wx X x)) : PE X (.Subscript l (.Slice none none (some (.UnaryOp .USub (.Constant (.int 1) k p1) p2)) p3) pos) (tE T C Wx X (.rev x)) := by
  refine PE_imp (pe_revL hx) fun σ H Q q => ?_
  refine (tM_bnd (R' := RelW X.K) q).imp fun v H1 ⟨m1, ρ, L1, w, S1, F1, r1, q1⟩ => ?_
  cases w <;> try exact False.elim q1
  rename_i l0
  have q1 : run (T.g X) (ofW Wx) σ (RelW X.K) (match itemsOf L1 (.ref l0) with
    | some ws => alloc (.lst ws.reverse)
    | none => fail) m1 H1 L1 Q := q1
  cases r1 with
  | ref hl =>
    split at q1
    · rename_i ws ew
      obtain ⟨xs, h1, r2⟩ := S1.itemsL hl ew
      exact ⟨_, xs, rfl, h1, fun p hp => run_new q1 S1 r2.reverse hp⟩
    · exact q1.elim
theorem pe_dnewx {tt : Bool} {pos : Pos} : PE X (.Dict [] [] pos) (tE T C Wx X (.dnew tt)) := by
  cases tt with
  | false =>
    refine PE_imp pe_dnewK fun σ H Q ⟨m, ρ, L, S, F, q⟩ p hp => ?_
    obtain ⟨e1, S1⟩ := S.new (o := .dct false []) (u := .dK []) hp ⟨[], upd_same, rfl, .nil⟩
    exact q _ _ _ e1 S1 (.ref (by rw [← S.len]; simp))
  | true =>
    refine PE_imp pe_dnewT fun σ H Q ⟨m, ρ, L, S, F, q⟩ p hp => ?_
    obtain ⟨e1, S1⟩ := S.new (o := .dct true []) (u := .dT []) hp ⟨[], upd_same, rfl, .nil⟩
    exact q _ _ _ e1 S1 (.ref (by rw [← S.len]; simp))
abbrev RTx : List Addr → Hp → Txt → Str → Prop := fun _ _ a b => b = ⟨a.toArray⟩
def RPs (K : PySem.W.Frag) : List Addr → Hp → List (Ky × W) → List (V × V) → Prop := fun m H a b => ∃ kvs : List (Key × V), b = kvs.map (fun kv => (kV kv.1, kv.2)) ∧ a.map (·.1) = kvs.map (fun q => kyK q.1) ∧ RelWs K m H (a.map (·.2)) (kvs.map (·.2))
theorem str_app' (x y : Txt) : (⟨x.toArray⟩ : Str) ++ ⟨y.toArray⟩ = ⟨(x ++ y).toArray⟩ := str_app x y
theorem fs_nil : ∀ (acc : Txt) (σ : L2.St) (H : Hp) (Q : Str → Hp → Prop), tM (T.g X) Wx RTx (fun ρ => evFs C ρ [] acc) σ H Q → tJs [] ⟨acc.toArray⟩ σ H Q := fun acc σ H Q ⟨m, ρ, L, S, F, q⟩ => run_ret (R := RTx) q S rfl
theorem fs_cons {x : Ex} {xs : List Ex} {t : TE} {ts : List TE} (ht : ∀ σ H (Q : VK), (tE T C Wx X x σ H fun v H1 => ∃ m1 ρ L1 w, Sim (T.g X) m1 L1 H1 ∧ RelF X.K m1 H1 ρ σ ∧ RelW X.K m1 H1 w v ∧ (∃ y, fmtW w = some y) ∧ ∀ y, fmtW w = some y → Q (.str ⟨y.toArray⟩) H1) → t σ H Q)
    (ih : ∀ (acc : Txt) (σ : L2.St) (H : Hp) (Q : Str → Hp → Prop), tM (T.g X) Wx RTx (fun ρ => evFs C ρ xs acc) σ H Q → tJs ts ⟨acc.toArray⟩ σ H Q) (acc : Txt) (σ : L2.St) (H : Hp) (Q : Str → Hp → Prop) (q : tM (T.g X) Wx RTx (fun ρ => evFs C ρ (x :: xs) acc) σ H Q) : tJs (t :: ts) ⟨acc.toArray⟩ σ H Q := by
  show t σ H fun x H1 => ∃ y : Str, x = .str y ∧ ((⟨acc.toArray⟩ : Str) ++ y).length ≤ sizeLine ∧ tJs ts (⟨acc.toArray⟩ ++ y) σ H1 Q
  refine ht σ H _ ((tM_bnd (R' := RelW X.K) q).imp fun v H1 ⟨m1, ρ, L1, w, S1, F1, r1, q1⟩ => ?_)
  have q1 : run (T.g X) (ofW Wx) σ RTx (match fmtW w with
    | some y => if lenOk (acc.length + y.length) then evFs C ρ xs (acc ++ y) else fail
    | none => fail) m1 H1 L1 Q := q1
  cases ey0 : fmtW w with
  | none => rw [ey0] at q1; exact q1.elim
  | some y0 =>
    refine ⟨m1, ρ, L1, w, S1, F1, r1, ⟨y0, ey0⟩, fun y ey => ?_⟩
    rw [ey] at q1
    rcases run_if q1 with ⟨c1, q1⟩ | ⟨_, q1⟩
    · refine ⟨_, rfl, ?_, ?_⟩
      · rw [str_app, str_len, List.length_append]; exact lenOk_le c1
      · rw [str_app]; exact ih _ _ _ _ ⟨m1, ρ, L1, S1, F1, q1⟩
    · exact q1.elim
theorem fmt_ok {w : W} {v : V} {m : List Addr} {H : Hp} (r : RelW X.K m H w v) {y : Txt} (h : fmtW w = some y) : (∃ z : Str, v = .str z ∧ z.length ≤ sizeLine ∧ z = ⟨y.toArray⟩) ∨ ∃ i : Int, v = .int i ∧ i.natAbs.log2 < 1920 ∧ toString i = (⟨y.toArray⟩ : Str) := by
  cases w <;> simp [fmtW] at h
  · obtain ⟨h1, h2⟩ := h
    cases r
    exact .inr ⟨_, rfl, h1, by rw [← h2] <;> simp⟩
  · obtain ⟨h1, h2⟩ := h
    subst h2
    cases r
    exact .inl ⟨_, rfl, by rw [str_len]; exact lenOk_le h1, rfl⟩
/-- what a part of an f-string is to give -/
def tFp (T : Tab) (C : Env) (Wx : WX) (X : Cx) (x : Ex) (σ : L2.St) (H : Hp) (Q : VK) : Prop := tE T C Wx X x σ H fun v H1 => ∃ m1 ρ L1 w, Sim (T.g X) m1 L1 H1 ∧ RelF X.K m1 H1 ρ σ ∧ RelW X.K m1 H1 w v ∧ (∃ y, fmtW w = some y) ∧ ∀ y, fmtW w = some y → Q (.str ⟨y.toArray⟩) H1
theorem fs_fmt {x : Ex} {σ : L2.St} {H : Hp} {Q : VK} (q : tFp T C Wx X x σ H Q) : tFmt (tE T C Wx X x) σ H Q := tM.imp q fun v H1 ⟨m1, ρ, L1, w, S1, F1, r1, ⟨y, ey⟩, q1⟩ => by
  rcases fmt_ok r1 ey with ⟨z, h1, h2, h3⟩ | ⟨i, h1, h2, h3⟩
  · exact .inl ⟨z, h1, h2, by rw [h3]; exact q1 y ey⟩
  · exact .inr ⟨i, h1, h2, by rw [h3]; exact q1 y ey⟩
theorem fs_cst {t : Txt} {σ : L2.St} {H : Hp} {Q : VK} (q : tFp T C Wx X (.ks t) σ H Q) : tE T C Wx X (.ks t) σ H Q := by
  obtain ⟨m, ρ, L, S, F, q⟩ := q
  refine ⟨m, ρ, L, S, F, ?_⟩
  have q : ∀ m' H' b, Ext m H m' H' → Sim (T.g X) m' L H' → RelW X.K m' H' (.str t) b → ∃ m1 ρ L1 w, Sim (T.g X) m1 L1 H' ∧ RelF X.K m1 H' ρ σ ∧ RelW X.K m1 H' w b ∧ (∃ y, fmtW w = some y) ∧ ∀ y, fmtW w = some y → Q (.str ⟨y.toArray⟩) H' := q
  show ∀ m' H' b, Ext m H m' H' → Sim (T.g X) m' L H' → RelW X.K m' H' (.str t) b → Q b H'
  intro m' H' b e s r
  obtain ⟨m1, ρ1, L1, w, _, _, r1, ⟨y, ey⟩, q1⟩ := q m' H' b e s r
  cases r
  cases w <;> simp [fmtW] at ey <;> cases r1
  obtain ⟨h1, h2⟩ := ey
  subst h2
  exact q1 _ (by simp [fmtW, h1])
theorem ps_nil (σ : L2.St) (H : Hp) (Q : List (V × V) → Hp → Prop) (q : tM (T.g X) Wx (RPs X.K) (fun ρ => evPs C ρ []) σ H Q) : tPairs [] σ H Q :=
  let ⟨m, ρ, L, S, F, q⟩ := q
  run_ret (R := RPs X.K) q S ⟨[], rfl, rfl, .nil⟩
theorem ps_cons {k v : Ex} {r : List Ex} {trs : List (TE × TE)} (ih : ∀ (σ : L2.St) (H : Hp) (Q : List (V × V) → Hp → Prop), tM (T.g X) Wx (RPs X.K) (fun ρ => evPs C ρ r) σ H Q → tPairs trs σ H Q) (σ : L2.St) (H : Hp) (Q : List (V × V) → Hp → Prop) (q : tM (T.g X) Wx (RPs X.K) (fun ρ => evPs C ρ (k :: v :: r)) σ H Q) :
    tPairs ((tE T C Wx X k, tE T C Wx X v) :: trs) σ H Q := by
  refine (tM_bnd (R' := RelW X.K) q).imp fun kx H1 ⟨m1, ρ, L1, kw, S1, F1, r1, q1⟩ => ⟨m1, ρ, L1, S1, F1, (run_bnd (R' := RelW X.K) q1).imp fun vx H2 ⟨m2, L2, vw, e2, S2, r2, q2⟩ => ih _ _ _ ⟨m2, ρ, L2, S2, F1.mono e2, (run_bnd (R' := RPs X.K) q2).imp fun ps H3 ⟨m3, L3, pw, e3, S3, r3, q3⟩ => ?_⟩⟩
  cases ek : keyFit false kw with
  | none => rw [ek] at q3; exact q3.elim
  | some ky =>
    rw [ek] at q3
    obtain ⟨kk, e4, e5⟩ := keyK_ok r1 ek
    obtain ⟨kvs, h1, h2, h3⟩ := r3
    exact run_ret (R := RPs X.K) q3 S3 ⟨(kk, vx) :: kvs, by rw [e4, h1]; rfl, by rw [List.map_cons, List.map_cons, h2, e5], .cons (r2.mono e3) h3⟩
theorem merge_ok {K : PySem.W.Frag} {m : List Addr} {H : Hp} : ∀ {ps : List (Ky × W)} {kvs : List (Key × V)} {as : List (Ky × W)} {qs : List (Key × V)}, ps.map (·.1) = kvs.map (fun q => kyK q.1) → RelWs K m H (ps.map (·.2)) (kvs.map (·.2)) → as.map (·.1) = qs.map (fun q => kyK q.1) → RelWs K m H (as.map (·.2)) (qs.map (·.2)) →
    (ps.foldl (fun acc p => dPut acc p.1 p.2) as).map (·.1) = (mergeK qs kvs).map (fun q => kyK q.1) ∧ RelWs K m H ((ps.foldl (fun acc p => dPut acc p.1 p.2) as).map (·.2)) ((mergeK qs kvs).map (·.2))
  | [], [], as, qs, _, _, h1, h2 => ⟨h1, h2⟩
  | [], _ :: _, _, _, e, _, _, _ => by simp at e
  | _ :: _, [], _, _, e, _, _, _ => by simp at e
  | (k, w) :: ps, (q, v) :: kvs, as, qs, e, r, h1, h2 => by
    simp only [List.map_cons, List.cons.injEq] at e
    cases r with
    | cons r1 r2 =>
      obtain ⟨k1, k2⟩ := put_find kyK kyK_inj h1 h2 r1 q
      show ((ps.foldl (fun acc p => dPut acc p.1 p.2) (dPut as k w)).map (·.1) = (mergeK (putK qs q v) kvs).map (fun q => kyK q.1)) ∧ _
      rw [e.1]
      exact merge_ok e.2 r2 k1 k2
theorem Sim.apartD {g : G} {m : List Addr} {L : Hh} {H : Hp} {p : Addr} {xs ys : List (Key × V)} (S : Sim g m L H) (hp : p ∉ m) (hl : H p = some (.dK xs)) : Sim g m L (upd H p (.dK ys)) ∧ Ex0 m H m (upd H p (.dK ys)) := by
  have e : Ex0 m H m (upd H p (.dK ys)) := ⟨fun _ _ h => h, fun a zs h => by rw [upd_ne (fun z => by rw [z, hl] at h; cases h)]; exact h, fun a o u h => by rw [upd_ne (fun z => by rw [z, hl] at h; cases h)]; exact h⟩
  exact ⟨⟨S.len, S.nd, fun l a o h1 h2 => (S.ob l a o h1 h2).mono e fun u h => by rw [upd_ne (show a ≠ p from fun z => hp (by rw [← z]; exact List.mem_of_getElem? h1))]; exact h⟩, e⟩
theorem run_bndA {α β γ δ : Type} {g : G} {Xw : XW} {σ : L2.St} {R : List Addr → Hp → α → β → Prop} {R' : List Addr → Hp → γ → δ → Prop} {m0 m : List Addr} {H0 H : Hp} {L : Hh} {Q : β → Hp → Prop} {c : M γ} {f : γ → M α} (e0 : Ext m0 H0 m H) (h : run g Xw σ R (bnd c f) m0 H0 L Q) :
    run g Xw σ R' c m H L (fun d H1 => ∃ m1 L1 a, Ext m H m1 H1 ∧ Sim g m1 L1 H1 ∧ R' m1 H1 a d ∧ run g Xw σ R (f a) m0 H0 L1 Q) := by
  unfold run at h ⊢
  rw [wp_bnd] at h
  exact wp_mono h (fun a L1 q m1 H1 b e1 s1 r1 => ⟨m1, L1, a, e1, s1, r1, q⟩) fun _ _ q m' H' cls d e' s r => q m' H' cls d (e0.trans e') s r
theorem dsp_turn {ps : List Ex} {trs : List (TE × TE)} (hp : ∀ (σ : L2.St) (H : Hp) (Q : List (V × V) → Hp → Prop), tM (T.g X) Wx (RPs X.K) (fun ρ => evPs C ρ ps) σ H Q → tPairs trs σ H Q) {σ : L2.St} {H : Hp} {Q : VK} (q : tE T C Wx X (.dsp ps) σ H Q) : tDisp trs σ H Q := by
  intro p hpn
  obtain ⟨m, ρ, L, S, F, q⟩ := q
  obtain ⟨e0, S0⟩ := S.free (u := .dK []) hpn
  refine hp _ _ _ ⟨m, ρ, L, S0, F.mono e0, (run_bndA (R' := RPs X.K) e0 q).imp fun b H2 ⟨m1, L1, a, e1, S1, r1, q1⟩ => ?_⟩
  have hD : H2 p = some (.dK []) := e1.out p _ upd_same (S.notIn hpn) (fun _ z => nomatch z)
  obtain ⟨kvs, h1, h2, h3⟩ := r1
  rcases run_if q1 with ⟨c1, q1⟩ | ⟨_, q1⟩
  · refine ⟨hD, kvs, h1, ?_, ?_⟩
    · have z := congrArg List.length h2
      simp only [List.length_map] at z
      have := of_decide_eq_true c1
      omega
    · have hm1 : p ∉ m1 := e1.notin (S.notIn hpn) upd_same
      obtain ⟨S2, x2⟩ := S1.apartD (ys := mergeK [] kvs) hm1 hD
      obtain ⟨k1, k2⟩ := merge_ok (as := []) (qs := []) h2 (h3.mono0 x2) rfl .nil
      have x3 : Ex0 m1 (upd H2 p (.dK (mergeK [] kvs))) (m1 ++ [p]) (upd H2 p (.dK (mergeK [] kvs))) := ⟨fun l a h => by
        obtain ⟨hl, _⟩ := List.getElem?_eq_some_iff.mp h
        rw [List.getElem?_append_left hl]
        exact h, fun _ _ h => h, fun _ _ _ h => h⟩
      have S3 := S2.adopt (o := .dct false (a.foldl (fun acc p => dPut acc p.1 p.2) [])) hm1 ⟨_, upd_same, k1, k2.mono0 x3⟩
      exact q1 _ _ _ (((e0.trans e1).apart hpn).adopt hpn) S3 (.ref (by rw [← S1.len]; simp))
  · exact q1.elim
theorem pe_dgetx (O : Ok T p C c X d) {o k x : Ex} {l a b : Expr} {apos pos : Pos} (hs : noSup l = true) (hl : (apos.endLine == pos.line) = true) (ha : chkE p c k a = true) (hb : chkE p c x b = true) (h1 : PE X l (tE T C Wx X o)) (h2 : PE X a (tE T C Wx X k)) (h3 : PE X b (tE T C Wx X x)) :
    PE X (.Call (.Attribute l "get" apos) [a, b] [] pos) (tE T C Wx X (.dgetd o k x)) := by
  have e1 : starEach [a, b] X.env = [(false, eval a X.env), (false, eval b X.env)] := by
    rw [star_plain ha, star_plain hb]
    rfl
  have hu := hu64 O.room
  refine PE_imp (pe_dget2 (by omega) h1 h2 h3 ⟨noSup_base hs _ _ _, by rw [e1]; rfl, hl, by rw [e1]; rfl⟩) fun σ H Q q => ?_
  refine (tM_bnd (R' := RelW X.K) q).imp fun v H1 ⟨m1, ρ, L1, w, S1, F1, r1, q1⟩ => ?_
  rcases run_if (p := (dctAt L1 w).isSome = true) q1 with ⟨c1, q1⟩ | ⟨_, q1⟩
  · obtain ⟨⟨tt, kvs⟩, e⟩ := Option.isSome_iff_exists.mp c1
    obtain ⟨l0, rfl⟩ : ∃ l0, w = .ref l0 := by
      cases w with
      | ref l0 => exact ⟨l0, rfl⟩
      | _ => simp [dctAt] at e
    simp only [dctAt] at e
    cases r1 with
    | @ref _ ad hl0 =>
      have e : L1[l0]? = some (.dct tt kvs) := by
        split at e
        · rename_i tt' kvs' e2
          simp only [Option.some.injEq, Prod.mk.injEq] at e
          rw [e2, e.1, e.2]
        · cases e
      refine ⟨ad, rfl, isD_ok S1 hl0 e, m1, ρ, L1, S1, F1, (run_bnd (R' := RelW X.K) q1).imp fun v2 H2 ⟨m2, L2', kw, e2, S2, r2, q2⟩ => ⟨m2, ρ, L2', S2, F1.mono e2, (run_bnd (R' := RelW X.K) q2).imp fun v3 H3 ⟨m3, L3, xw, e3, S3, r3, q3⟩ => ?_⟩⟩
      have q3 : run (T.g X) (ofW Wx) σ (RelW X.K) (match dctAt L3 (.ref l0) with
        | some (tt, kvs) => (match keyFit tt kw with
          | some k => ret ((dGet kvs k).getD xw)
          | none => fail)
        | none => fail) m3 H3 L3 Q := q3
      have hl3 : m3[l0]? = some ad := (e2.trans e3).x0.at_ _ _ hl0
      split at q3
      · rename_i tt' kvs' e4
        have e4 : L3[l0]? = some (.dct tt' kvs') := by
          simp only [dctAt] at e4
          split at e4
          · rename_i e5
            simp only [Option.some.injEq, Prod.mk.injEq] at e4
            rw [e5, e4.1, e4.2]
          · cases e4
        split at q3
        · rename_i kk ek
          rcases dget_ok S3 hl3 e4 (r2.mono e3) ek with ⟨a1, a2⟩ | ⟨z, vz, a1, a2, a3⟩
          · rw [a1] at q3; exact ⟨none, a2, run_val q3 S3 r3⟩
          · rw [a1] at q3; exact ⟨some vz, a2, run_val q3 S3 a3⟩
        · exact q3.elim
      · exact q3.elim
  · exact q1.elim
/-- x in a written dict or tuple of texts -/
def rKin (a : Addr) (ng : Bool) (ks : List Txt) : R2 := fun x y H Q => ∃ t : Txt, x = .str ⟨t.toArray⟩ ∧ y = .ref a ∧ Q (.bl (if ng = true then !decide (t ∈ ks) else decide (t ∈ ks))) H
theorem inV_txt (t : Txt) : ∀ ks : List Txt, inV (.str ⟨t.toArray⟩) (ks.map fun k => V.str ⟨k.toArray⟩) = decide (t ∈ ks)
  | [] => rfl
  | k :: ks => by
    show (eqV (.str ⟨k.toArray⟩) (.str ⟨t.toArray⟩) || inV _ _) = _
    rw [inV_txt t ks]
    show (((⟨k.toArray⟩ : Str) == ⟨t.toArray⟩) || _) = _
    have e : ((⟨k.toArray⟩ : Str) == ⟨t.toArray⟩) = (k == t) := SX.S_beq k t
    rw [e]
    by_cases h : k = t
    · simp [h]
    · have h2 : ¬ t = k := fun z => h z.symm
      simp [h, h2]
theorem flat_txt (ks : List Txt) : (ks.map fun k => V.str ⟨k.toArray⟩).all flatV = true := by
  induction ks with
  | nil => rfl
  | cons k ks ih => rw [List.map_cons, List.all_cons, ih]; rfl
theorem kin_gt {a : Addr} {ks : List Txt} (h : ∀ H, SqT X.K H a (ks.map fun t => V.str ⟨t.toArray⟩)) (ng : Bool) : OpR X (compareOp (if ng = true then .NotIn else .In)) (rKin a ng ks) := by
  intro pins s σ H x y v u Q I rx ry ⟨t, e1, e2, q⟩
  cases ng with
  | false => exact op_in_seq pins s σ H x y v u Q I rx ry ⟨a, _, e2, .inr (h H), by rw [e1]; rfl, flat_txt ks, by rw [e1, inV_txt]; exact q⟩
  | true => exact op_notIn_seq pins s σ H x y v u Q I rx ry ⟨a, _, e2, .inr (h H), by rw [e1]; rfl, flat_txt ks, by rw [e1, inV_txt]; exact q⟩
theorem lookup_mem {kvs : List (Txt × W)} {ks : List Txt} (e : kvs.map (·.1) = ks) (t : Txt) : (kvs.lookup t).isSome = decide (t ∈ ks) := by
  subst e
  induction kvs with
  | nil => rfl
  | cons p kvs ih =>
    obtain ⟨k, v⟩ := p
    rw [List.lookup_cons]
    by_cases h : t = k
    · subst h; simp
    · have h2 : (t == k) = false := by simpa using h
      rw [h2]
      simp only [List.map_cons, List.mem_cons, h, false_or]
      exact ih
theorem kin_gd {a : Addr} {kvs : List (Txt × W)} {ks : List Txt} (h : gdOk X.K X.w a kvs) (e : kvs.map (·.1) = ks) (ng : Bool) : OpR X (compareOp (if ng = true then .NotIn else .In)) (rKin a ng ks) := by
  intro pins s σ H x y v u Q I rx ry ⟨t, e1, e2, q⟩
  obtain ⟨es, n, D, hk⟩ := h
  have hr : ∃ r, PySem.W.nsIn X.K a ⟨t.toArray⟩ = some r ∧ r.isSome = decide (t ∈ ks) := by
    have z := hk t
    have z2 := lookup_mem e t
    cases el : kvs.lookup t with
    | none => rw [el] at z z2; exact ⟨none, z, z2⟩
    | some w =>
      rw [el] at z z2
      obtain ⟨u0, y0, z1, _⟩ := z
      exact ⟨some u0, z1, z2⟩
  obtain ⟨r, h1, h2⟩ := hr
  cases ng with
  | false => exact op_in_kd D pins s σ H x y v u Q I rx ry ⟨_, r, e1, e2, h1, by rw [h2]; exact q⟩
  | true => exact op_notIn_kd D pins s σ H x y v u Q I rx ry ⟨_, r, e1, e2, h1, by rw [h2]; exact q⟩
theorem kin_all (O : Ok T p C c X d) {ng : Bool} {gn : Str} {ks : List Txt} (h : ((p.gt.contains (gn, ks)) || (p.gd.any fun q => decide (q.1 = gn) && decide (q.2.map (·.1) = ks))) = true) : ∃ a, X.mg gn = some (.ref a) ∧ OpR X (compareOp (if ng = true then .NotIn else .In)) (rKin a ng ks) := by
  rcases (Bool.or_eq_true _ _).mp h with h | h
  · obtain ⟨a, h1, h2⟩ := O.pg.gt _ (List.contains_iff_mem.mp h)
    exact ⟨a, h1, kin_gt h2 ng⟩
  · obtain ⟨q, hq, h2⟩ := List.any_eq_true.mp h
    simp only [Bool.and_eq_true, decide_eq_true_eq] at h2
    obtain ⟨a, h3, h4⟩ := O.pg.gd q hq
    rw [h2.1] at h3
    exact ⟨a, h3, kin_gd h4 h2.2 ng⟩
theorem tOp_kin {a : Addr} {ng : Bool} {ks : List Txt} {gn : Str} {x : Ex} {σ : L2.St} {H : Hp} {Q : VK} (q : tE T C Wx X (.kin ng x gn ks) σ H Q) : tOp (rKin a ng ks) (tE T C Wx X x) (tC (.ref a)) σ H Q :=
  (tM_bnd (R' := RelW X.K) q).imp fun v H1 ⟨m1, ρ, L1, w, S1, F1, r1, q1⟩ => by
    cases w <;> try exact False.elim q1
    cases r1
    exact ⟨_, rfl, rfl, run_val q1 S1 (.bl _)⟩
theorem kvB_ok : ∀ {a b : List (Txt × W)}, kvB a b = true → a = b
  | [], [], _ => rfl
  | [], _ :: _, h => by simp [kvB] at h
  | _ :: _, [], h => by simp [kvB] at h
  | (t, v) :: r, (t2, v2) :: r2, h => by
    simp only [kvB, Bool.and_eq_true, decide_eq_true_eq] at h
    obtain ⟨⟨h1, h2⟩, h3⟩ := h
    have e : v = v2 := by
      cases v <;> cases v2 <;> simp [flB] at h2
      · rw [h2]
      · rw [h2]
    rw [h1, e, kvB_ok h3]
theorem pe_kgetx (O : Ok T p C c X d) {x : Ex} {gn : Str} {kvs : List (Txt × W)} {l : Expr} {ps pos : Pos} (g1 : Gl X gn) (g2 : (gn == ("__debug__" : Str)) = false) (hl : chkE p c x l = true) (h : (p.gd.any fun q => decide (q.1 = gn) && kvB q.2 kvs) = true) (hx : PE X l (tE T C Wx X x)) :
    PE X (.Subscript (.Name gn ps) l pos) (tE T C Wx X (.kget x gn kvs)) := by
  obtain ⟨q0, hq, h2⟩ := List.any_eq_true.mp h
  simp only [Bool.and_eq_true, decide_eq_true_eq] at h2
  obtain ⟨a, h3, es, n, D, hk⟩ := O.pg.gd q0 hq
  rw [h2.1] at h3
  rw [kvB_ok h2.2] at hk
  refine PE_imp (pe_ix ix_kdict (pe_glob (v := .ref a) g1 h3 rfl g2) hx (ixplain hl)) fun σ H Q q => ?_
  refine (tM_bnd (R' := RelW X.K) q).imp fun v H1 ⟨m1, ρ, L1, w, S1, F1, r1, q1⟩ => ?_
  cases w <;> try exact False.elim q1
  rename_i t
  cases r1
  have q1 : run (T.g X) (ofW Wx) σ (RelW X.K) (match kvs.lookup t with
    | some v => ret v
    | none => fail) m1 H1 L1 Q := q1
  have z := hk t
  cases el : kvs.lookup t with
  | none => rw [el] at q1; exact q1.elim
  | some w =>
    rw [el] at q1 z
    obtain ⟨u0, y0, z1, z2, z3⟩ := z
    exact ⟨a, _, y0, rfl, rfl, ⟨es, n, u0, D.at_, D.lit, z1, z2⟩, run_val q1 S1 (z3 _ _)⟩
theorem pe_isiown (O : Ok T p C c X d) {x : Ex} {k : Nat} {y n : Str} {ps ps2 pos : Pos} {l : Expr} (hb : bltB p c.sc y "isinstance" = true) (hn : p.cls[k]? = some n) (hg : glB c.sc n = true) (hl : chkE p c x l = true) (hx : PE X l (tE T C Wx X x)) :
    PE X (.Call (.Name y ps) [l, .Name n ps2] [] pos) (tE T C Wx X (.isi x (.own k))) := by
  obtain ⟨rfl, g1, g2, g3⟩ := O.blt hb
  obtain ⟨k1, k2⟩ := O.gl hg
  have hm := List.mem_of_getElem? hn
  obtain ⟨c1, c2⟩ := O.pg.cls n hm
  refine PE_imp (pe_callB call_isi g1 g2 PyProof.Rows.boot_isinstance (pa_cons hx (pa_cons (pe_glob (v := .ref (He.ga X.K n)) k1 c1 rfl k2) pa_nil) (star_plain hl _ X.env)) (by decide) g3 (star_plain hl _ X.env)) fun σ H Q q => ?_
  refine (tM_bnd (R' := RelW X.K) q).imp fun v H1 ⟨m1, ρ, L1, w, S1, F1, r1, q1⟩ => ?_
  have fin : ∀ {a : String} {b : Bool}, typeNm L1 w = some a → run (T.g X) (ofW Wx) σ (RelW X.K) (ret (.bl false)) m1 H1 L1 Q → rIsi X.K [v, .ref (He.ga X.K n)] H1 Q := fun {a b} e q1 => by
    obtain ⟨t1, t2⟩ := tyx_of S1 r1 e
    exact ⟨v, .ref (He.ga X.K n), .type a, .ref (He.ga X.K n), false, rfl, .own _, t1, O.pg.kitT n hm a t2, run_val q1 S1 (.bl _)⟩
  have q1 : run (T.g X) (ofW Wx) σ (RelW X.K) (match isKind C.sub L1 w (.own k) with
    | some b => ret (.bl b)
    | none => fail) m1 H1 L1 Q := q1
  cases w with
  | ref l0 =>
    cases e : L1[l0]? with
    | none =>
      have z : isKind C.sub L1 (.ref l0) (.own k) = none := by unfold isKind; dsimp only; rw [e]
      rw [z] at q1; exact q1.elim
    | some ob =>
      cases ob with
      | ins kc fs =>
        have z : isKind C.sub L1 (.ref l0) (.own k) = some (C.sub kc k) := by unfold isKind; dsimp only; rw [e]
        rw [z] at q1
        cases r1 with
        | @ref _ ad hl0 =>
          obtain ⟨dx, qs, h1, h2, h3, h4, h9⟩ := S1.ob l0 ad _ hl0 e
          have h1 : H1 ad = some (.ins (He.ga X.K (T.CN.getD kc Str.empty)) dx qs) := h1
          have hkc : kc < p.cls.length := by rw [← O.cn]; exact h9
          · obtain ⟨cx, ecx⟩ : ∃ cx, p.cls[kc]? = some cx := ⟨_, List.getElem?_eq_getElem hkc⟩
            rw [cls_of O ecx] at h1
            have cX := (O.pg.cls cx (List.mem_of_getElem? ecx)).2
            have kt := O.pg.kit kc k cx n ecx hn
            rw [← O.cf.sub] at kt
            exact ⟨_, .ref (He.ga X.K n), .ref (He.ga X.K cx), .ref (He.ga X.K n), _, rfl, .own _, .base (.ins h1 cX.cl cX.ha cX.hn cX.tk cX.hm), kt, run_val q1 S1 (.bl _)⟩
      | lst ws => exact fin (a := "list") (b := false) (by simp only [typeNm]; rw [e]) (by
          have z : isKind C.sub L1 (.ref l0) (.own k) = some false := by unfold isKind; dsimp only; rw [e]
          rw [z] at q1; exact q1)
      | ro ws => exact fin (a := "list") (b := false) (by simp only [typeNm]; rw [e]) (by
          have z : isKind C.sub L1 (.ref l0) (.own k) = some false := by unfold isKind; dsimp only; rw [e]
          rw [z] at q1; exact q1)
      | dct tt kvs => exact fin (a := "dict") (b := false) (by simp only [typeNm]; rw [e]) (by
          have z : isKind C.sub L1 (.ref l0) (.own k) = some false := by unfold isKind; dsimp only; rw [e]
          rw [z] at q1; exact q1)
  | non => exact fin (a := "NoneType") (b := false) rfl q1
  | bl b => exact fin (a := "bool") (b := false) rfl q1
  | int i => exact fin (a := "int") (b := false) rfl q1
  | str z => exact fin (a := "str") (b := false) rfl q1
  | tup ws => exact fin (a := "tuple") (b := false) rfl q1
  | _ => exact False.elim q1
mutual
theorem sndE {c : Dc} {X : Cx} {Wx : WX} (O : Ok T p C c X d) (tk : Takes X Wx) : ∀ (x : Ex) (e : Expr), chkE p c x e = true → PE X e (tE T C Wx X x)
  | .var i, e, h => by
    simp only [chkE] at h
    split at h <;> try cases h
    rename_i y pos
    simp only [Bool.and_eq_true, decide_eq_true_eq] at h
    obtain ⟨⟨⟨h1, h2⟩, h3⟩, h4⟩ := h
    refine PE_imp (pe_var (i := i) (by rw [O.N]; exact h2) (O.vis h1) (by simpa [bne] using h3) (by simpa [bne] using h4)) fun σ H Q ⟨m, ρ, L, S, F, q⟩ => ?_
    have q : run (T.g X) (ofW Wx) σ (RelW X.K) (match ρ[i]? with
      | some (some w) => ret w
      | _ => fail) m H L Q := q
    split at q
    · rename_i w ew
      obtain ⟨v, e1, r⟩ := F.at_ i w ew
      exact ⟨v, e1, run_val q S r⟩
    · exact q.elim
  | .kn, e, h => by
    simp only [chkE] at h
    split at h <;> try cases h
    exact pe_const (fun _ => rfl) (fun _ _ => .non) pe_non
  | .kb b, e, h => by
    simp only [chkE] at h
    split at h <;> try cases h
    have := eq_of_beq h
    subst this
    exact pe_const (fun _ => rfl) (fun _ _ => .bl _) pe_bl
  | .ki i, e, h => by
    simp only [chkE] at h
    split at h <;> try cases h
    have := of_decide_eq_true h
    subst this
    exact pe_const (fun _ => rfl) (fun _ _ => .int _) pe_int
  | .ks x, e, h => by
    simp only [chkE] at h
    split at h <;> try cases h
    have := of_decide_eq_true h
    subst this
    exact pe_const (fun _ => rfl) (fun _ _ => .str _) pe_str
  | .gi n i, e, h => by
    simp only [chkE] at h
    split at h <;> try cases h
    simp only [Bool.and_eq_true, decide_eq_true_eq] at h
    obtain ⟨⟨h1, h2⟩, h3⟩ := h
    obtain ⟨g1, g2⟩ := O.gl h2
    obtain ⟨t, ht⟩ := O.pg.gi _ (List.contains_iff_mem.mp h3)
    exact pe_const (fun _ => rfl) (fun _ _ => .int _) (pe_glob g1 ht ⟨t, rfl⟩ g2)
  | .gs n x, e, h => by
    simp only [chkE] at h
    split at h <;> try cases h
    simp only [Bool.and_eq_true, decide_eq_true_eq] at h
    obtain ⟨⟨h1, h2⟩, h3⟩ := h
    obtain ⟨g1, g2⟩ := O.gl h2
    obtain ⟨t, ht⟩ := O.pg.gs _ (List.contains_iff_mem.mp h3)
    exact pe_const (fun _ => rfl) (fun _ _ => .str _) (pe_glob g1 ht ⟨t, rfl⟩ g2)
  | .bin op a b, e, h => by
    simp only [chkE] at h
    split at h <;> try cases h
    simp only [Bool.and_eq_true, decide_eq_true_eq] at h
    obtain ⟨⟨h1, h2⟩, h3⟩ := h
    subst h1
    exact PE_imp (pe_op (op_bin_ok op) (sndE O tk a _ h2) (sndE O tk b _ h3)) fun σ H Q q => tOp_of q
  | .neg a, e, h => by
    simp only [chkE] at h
    split at h <;> try cases h
    refine PE_imp (pe_un un_neg (sndE O tk a _ h)) fun σ H Q q => (tM_bnd (R' := RelW X.K) q).imp fun v H1 ⟨m1, ρ, L1, w, S1, F1, r1, q1⟩ => ?_
    cases w <;> try exact False.elim q1
    cases r1
    exact ⟨_, rfl, run_val q1 S1 (.int _)⟩
  | .cmp op a b, e, h => by
    simp only [chkE] at h
    split at h <;> try cases h
    simp only [Bool.and_eq_true, decide_eq_true_eq] at h
    obtain ⟨⟨h1, h2⟩, h3⟩ := h
    subst h1
    exact PE_imp (pe_cmpR (op_cmpX_ok (Wx := Wx) O op) (sndE O tk a _ h2) (sndE O tk b _ h3) (markE h3 _)) fun σ H Q q => tOp_of q
  | .chn o1 o2 a b d, e, h => by
    simp only [chkE] at h
    split at h <;> try cases h
    simp only [Bool.and_eq_true, decide_eq_true_eq] at h
    obtain ⟨⟨⟨⟨h1, h2⟩, h3⟩, h4⟩, h5⟩ := h
    subst h1 h2
    refine PE_imp (pe_chain (op_cmp_ok (T := T) (Xw := ofW Wx) (hu64 O.room) o1) (op_cmp_ok (T := T) (Xw := ofW Wx) (hu64 O.room) o2) (sndE O tk a _ h3) (sndE O tk b _ h4) (sndE O tk d _ h5) (by show behindInMarks _ _ = false; exact markE h5 _)) fun σ H Q q => ?_
    refine (tM_bnd (R' := RelW X.K) q).imp fun v H1 ⟨m1, ρ, L1, x, S1, F1, r1, q1⟩ => ⟨m1, ρ, L1, S1, F1, (run_bnd (R' := RelW X.K) q1).imp fun v2 H2 ⟨m2, L2, y, e2, S2, r2, q2⟩ => ?_⟩
    refine ⟨σ, m2, L2, x, y, S2, r1.mono e2, r2, (run_bnd (R' := RelW X.K) q2).imp fun v3 H3 ⟨m3, L3, z, e3, S3, r3, q3⟩ => ?_⟩
    cases z <;> try exact False.elim q3
    rename_i k
    cases r3
    refine ⟨k, rfl, ?_⟩
    cases k
    · rw [if_neg (by simp)]
      exact run_val q3 S3 (.bl _)
    · rw [if_pos rfl]
      exact ⟨m3, ρ, L3, S3, (F1.mono e2).mono e3, (run_bnd (R' := RelW X.K) q3).imp fun v4 H4 ⟨m4, L4, z4, e4, S4, r4, q4⟩ => ⟨σ, m4, L4, y, z4, S4, (r2.mono e3).mono e4, r4, q4⟩⟩
  | .band xs, e, h => by
    simp only [chkE] at h
    split at h <;> try cases h
    simp only [Bool.and_eq_true] at h
    exact sndAnd O tk xs _ _ h.1 (by simpa using h.2)
  | .bor xs, e, h => by
    simp only [chkE] at h
    split at h <;> try cases h
    simp only [Bool.and_eq_true] at h
    exact sndOr O tk xs _ _ h.1 (by simpa using h.2)
  | .bnot a, e, h => by
    simp only [chkE] at h
    split at h <;> try cases h
    have ha := sndE O tk a _ h
    refine ⟨fun pins s σ H Q I q => ?_⟩
    refine UnaryOp_ (thn (ha.run pins s σ H (fun v H1 => rOT (T.g X) (ofW Wx) truth v H1 fun k H2 => Q (.bl (!k)) H2) I ((tM_bnd (R' := RelW X.K) q).imp fun v H1 ⟨m1, ρ, L1, w, S1, F1, r1, q1⟩ => ?_)) fun u s1 ⟨x, H1, I1, r1, q1⟩ => ?_)
    · refine ⟨σ, m1, L1, w, S1, r1, ?_⟩
      exact (run_bnd (R' := RB) q1).imp fun k H2 ⟨m2, L2, b, e2, S2, eb, q2⟩ => by
        have eb : b = k := eb
        subst eb
        exact run_val q2 S2 (.bl _)
    · exact not_of (thn (tru_ok' pins s1 σ H1 x u _ I1 r1 q1) fun k s2 ⟨H2, I2, q2⟩ => ⟨.bl (!k), H2, I2, rfl, q2⟩)
  | .ifx t a b, e, h => by
    simp only [chkE] at h
    split at h <;> try cases h
    simp only [Bool.and_eq_true] at h
    refine PE_imp (pe_ifExp (sndT O tk t _ h.1.1) (sndE O tk a _ h.1.2) (sndE O tk b _ h.2)) fun σ H Q q => ?_
    refine (tM_bnd (R' := RB) q).imp fun k H1 ⟨m1, ρ, L1, w, S1, F1, r1, q1⟩ => ?_
    have r1 : w = k := r1
    subst r1
    rcases run_if q1 with ⟨c1, q2⟩ | ⟨c1, q2⟩
    · rw [if_pos c1]; exact ⟨m1, ρ, L1, S1, F1, q2⟩
    · rw [if_neg c1]; exact ⟨m1, ρ, L1, S1, F1, q2⟩
  | .sub a i, e, h => by
    simp only [chkE] at h
    split at h <;> try cases h
    simp only [Bool.and_eq_true] at h
    exact PE_imp (pe_ix (ix_ok (hu64 O.room)) (sndE O tk a _ h.1) (sndE O tk i _ h.2) (ixplain h.2)) fun σ H Q q => tOp_of q
  | .slc a lo hi, e, h => by
    simp only [chkE] at h
    split at h <;> try cases h
    simp only [Bool.and_eq_true] at h
    refine PE_imp (pe_slice (sl_ok (T := T) (Xw := ofW Wx) rfl) (sndE O tk a _ h.1.1) (sndO O tk lo _ h.1.2) (sndO O tk hi _ h.2)) fun σ H Q q => ?_
    refine (tM_bnd (R' := RelW X.K) q).imp fun v H1 ⟨m1, ρ, L1, x, S1, F1, r1, q1⟩ => ⟨m1, ρ, L1, S1, F1, (run_bnd (R' := fun _ _ (x y : Option Int) => x = y) q1).imp fun l H2 ⟨m2, L2, y, e2, S2, r2, q2⟩ => ?_⟩
    refine ⟨m2, ρ, L2, S2, F1.mono e2, (run_bnd (R' := fun _ _ (x y : Option Int) => x = y) q2).imp fun u H3 ⟨m3, L3, z, e3, S3, r3, q3⟩ => ?_⟩
    have r2 : y = l := r2
    have r3 : z = u := r3
    subst r2 r3
    exact ⟨σ, m3, L3, x, S3, (r1.mono e2).mono e3, q3⟩
  | .lst xs, e, h => by
    simp only [chkE] at h
    split at h <;> try cases h
    refine PE_imp (pe_lst (sndEs O tk xs _ h)) fun σ H Q q => ?_
    refine (tM_bnd (R' := RelWs X.K) q).imp fun vs H1 ⟨m1, ρ, L1, ws, S1, F1, r1, q1⟩ => ?_
    rcases run_if q1 with ⟨c1, q2⟩ | ⟨c1, q2⟩
    · exact ⟨by rw [← r1.length]; exact lenOk_le c1, fun p hp => run_new q2 S1 r1 hp⟩
    · exact q2.elim
  | .tup xs, e, h => by
    simp only [chkE] at h
    split at h <;> try cases h
    refine PE_imp (pe_tup (sndEs O tk xs _ h)) fun σ H Q q => ?_
    refine (tM_bnd (R' := RelWs X.K) q).imp fun vs H1 ⟨m1, ρ, L1, ws, S1, F1, r1, q1⟩ => ?_
    rcases run_if q1 with ⟨c1, q2⟩ | ⟨c1, q2⟩
    · exact ⟨by rw [← r1.length]; exact lenOk_le c1, fun p hp => run_tup q2 S1 r1 hp⟩
    · exact q2.elim
  | .call t xs ys, e, h => by
    simp only [chkE] at h
    split at h <;> try cases h
    split at h <;> try cases h
    rename_i y ps es ks pos _ g hg
    simp only [Bool.and_eq_true, decide_eq_true_eq, beq_iff_eq] at h
    obtain ⟨⟨⟨⟨⟨h1, h2⟩, h3⟩, h4⟩, h5⟩, h6⟩ := h
    obtain ⟨g1, g2⟩ := O.gl h2
    obtain ⟨f2, f1, f3⟩ := O.tg t g hg
    exact pe_target tk (O.room.mono (by omega)) g1 g2 (f1 y h1) f2 f3 h3 (chkEs_len h5) (by simpa using chkEs_len h6) h4 (sndEs O tk xs _ h5) (sndKs O tk ys ks h6) (chkEs_star h5) (fun env => chkEs_head h5 env)
  | .bi b xs, e, h => by
    simp only [chkE] at h
    split at h <;> try cases h
    rename_i y ps es pos
    simp only [Bool.and_eq_true] at h
    obtain ⟨⟨h1, h2⟩, h3⟩ := h
    cases es with
    | nil => simp at h2
    | cons e es => exact pe_bi O h1 h3 (sndEs O tk xs _ h3)
  | .met m o xs, e, h => by
    simp only [chkE] at h
    split at h <;> try cases h
    simp only [Bool.and_eq_true, decide_eq_true_eq] at h
    obtain ⟨⟨⟨⟨⟨⟨h1, h2⟩, h3⟩, h4⟩, h5⟩, h6⟩, h7⟩ := h
    subst h1
    exact pe_met h2 h3 h4 h5 h7 (sndE O tk o _ h6) (sndEs O tk xs _ h7)
  | .lc own t it cs x, e, h => by
    simp only [chkE] at h
    split at h <;> try cases h
    simp only [Bool.and_eq_true, decide_eq_true_eq] at h
    obtain ⟨⟨⟨⟨⟨⟨⟨⟨h1, h2⟩, h3⟩, h4⟩, h5⟩, h6⟩, h7⟩, h8⟩, h9⟩ := h
    subst h1
    exact pe_lcx O h4 h2 (sndI O tk it _ _ h5) (fun s H Cc cl fp => sndG (O.blk h3 s H Cc cl fp) takes0 t _ h6) (fun s H Cc cl fp => sndTs (O.blk h3 s H Cc cl fp) takes0 cs _ h8 h7)
      (fun s H Cc cl fp => sndE (O.blk h3 s H Cc cl fp) takes0 x _ h9) (noSet h5 X.env)
  | .fld o f, e, h => by
    simp only [chkE] at h
    split at h <;> try cases h
    simp only [Bool.and_eq_true, decide_eq_true_eq] at h
    exact pe_fldx O h.1.1 h.1.2 (sndE O tk o _ h.2)
  | .prp o f, e, h => by simp [chkE] at h
  | .mcall m o xs ys, e, h => by
    simp only [chkE] at h
    split at h <;> try cases h
    split at h <;> try cases h
    rename_i l n apos es ks pos _ nm np kws hm
    simp only [Bool.and_eq_true, decide_eq_true_eq, kwB] at h
    obtain ⟨⟨⟨⟨⟨⟨⟨⟨h1, h2⟩, h3⟩, h4⟩, h5⟩, h6⟩, h7⟩, h8⟩, h9⟩ := h
    subst h1
    exact pe_mcallx O tk hm h2 h3 h4 h5 h6 h8 h9 (sndE O tk o _ h7) (sndEs O tk xs _ h8) (sndKs O tk ys ks h9)
  | .mk m xs ys, e, h => by
    simp only [chkE] at h
    split at h <;> try cases h
    split at h <;> try cases h
    rename_i y ps es ks pos _ x np kws hm
    simp only [Bool.and_eq_true, decide_eq_true_eq, kwB] at h
    obtain ⟨⟨⟨⟨⟨⟨⟨h1, h2⟩, h3⟩, h3b⟩, h4⟩, h5⟩, h6⟩, h7⟩ := h
    subst h1
    obtain ⟨g1, g2⟩ := O.gl h2
    exact pe_mkx O tk hm g1 g2 (List.contains_iff_mem.mp h3) (List.contains_iff_mem.mp h3b) h4 h5 h6 h7 (sndEs O tk xs _ h6) (sndKs O tk ys ks h7)
  | .isi x cl, e, h => by
    simp only [chkE] at h
    split at h <;> try cases h
    simp only [Bool.and_eq_true] at h
    obtain ⟨⟨h1, h2⟩, h3⟩ := h
    cases cl with
    | own k =>
      simp only [Bool.and_eq_true, decide_eq_true_eq] at h3
      exact pe_isiown O h1 h3.1 h3.2 h2 (sndE O tk x _ h2)
    | ty s =>
      simp only [Bool.and_eq_true] at h3
      exact pe_isi' O h1 h3.1 h3.2 h2 (sndE O tk x _ h2)
  | .isis x cs, e, h => by
    simp only [chkE] at h
    split at h <;> try cases h
    simp only [Bool.and_eq_true] at h
    exact pe_isis' O h.1.1 h.2 h.1.2 (sndE O tk x _ h.1.2)
  | .srtset x, e, h => by
    simp only [chkE] at h
    split at h <;> try cases h
    simp only [Bool.and_eq_true] at h
    exact pe_srtset O h.1.1 h.1.2 h.2 (sndE O tk x _ h.2)
  | .lenset x, e, h => by simp [chkE] at h
  | .rev x, e, h => by
    simp only [chkE] at h
    split at h <;> try cases h
    simp only [Bool.and_eq_true, decide_eq_true_eq] at h
    obtain ⟨h1, h2⟩ := h
    subst h1
    exact pe_revx (sndE O tk x _ h2)
  | .fst ps, e, h => by
    simp only [chkE] at h
    split at h <;> try cases h
    obtain ⟨ts, h1, h2⟩ := sndFs O tk ps _ h
    exact PE_imp (pe_joined h1) fun σ H Q ⟨m, ρ, L, S, F, q⟩ => h2 [] σ H _ ⟨m, ρ, L, S, F, (run_bnd (R' := RTx) q).imp fun b H1 ⟨m1, L1, a, e1, S1, r1, q1⟩ => by
      have r1 : b = ⟨a.toArray⟩ := r1
      subst r1
      exact run_val q1 S1 (.str a)⟩
  | .dnew tt, e, h => by
    simp only [chkE] at h
    split at h <;> try cases h
    exact pe_dnewx
  | .dsp ps, e, h => by
    simp only [chkE] at h
    split at h <;> try cases h
    rename_i ks vs pos
    simp only [Bool.and_eq_true, decide_eq_true_eq, Bool.not_eq_true'] at h
    obtain ⟨⟨h1, h2⟩, h3⟩ := h
    obtain ⟨trs, k1, k2, k3, k4⟩ := sndPs O tk ps ks vs pos h3
    exact PE_imp (pe_disp k1 k2 k3 (by intro z; rw [z] at h1; cases h1) h2) fun σ H Q q => dsp_turn k4 q
  | .dgetd o k x, e, h => by
    simp only [chkE] at h
    split at h <;> try cases h
    simp only [Bool.and_eq_true, decide_eq_true_eq] at h
    obtain ⟨⟨⟨⟨⟨h1, h2⟩, h3⟩, h4⟩, h5⟩, h6⟩ := h
    subst h1
    exact pe_dgetx O h2 h3 h5 h6 (sndE O tk o _ h4) (sndE O tk k _ h5) (sndE O tk x _ h6)
  | .kin ng x gn ks, e, h => by
    simp only [chkE] at h
    split at h <;> try cases h
    simp only [Bool.and_eq_true, decide_eq_true_eq] at h
    obtain ⟨⟨⟨⟨h1, h2⟩, h3⟩, h4⟩, h5⟩ := h
    subst h1 h3
    obtain ⟨a, e1, op⟩ := kin_all O (ng := ng) h5
    obtain ⟨g1, g2⟩ := O.gl h4
    refine PE_imp (pe_cmpR op (sndE O tk x _ h2) (pe_glob (v := .ref a) g1 e1 rfl g2) (by cases ng <;> rfl)) fun σ H Q q => tOp_kin q
  | .kget x gn kvs, e, h => by
    simp only [chkE] at h
    split at h <;> try cases h
    simp only [Bool.and_eq_true, decide_eq_true_eq] at h
    obtain ⟨⟨⟨h1, h2⟩, h3⟩, h4⟩ := h
    subst h2
    obtain ⟨g1, g2⟩ := O.gl h3
    exact pe_kgetx O g1 g2 h1 h4 (sndE O tk x _ h1)
  | .gt g ws, e, h => by simp [chkE] at h
  | .dun i a b, e, h => by simp [chkE] at h
  | .why x, e, h => by simp [chkE] at h
theorem sndFs {c : Dc} {X : Cx} {Wx : WX} (O : Ok T p C c X d) (tk : Takes X Wx) : ∀ (ps : List Ex) (es : List Expr), chkFs p c ps es = true → ∃ ts, PJ X es ts ∧ ∀ (acc : Txt) (σ : L2.St) (H : Hp) (Q : Str → Hp → Prop), tM (T.g X) Wx RTx (fun ρ => evFs C ρ ps acc) σ H Q → tJs ts ⟨acc.toArray⟩ σ H Q
  | [], es, h => by
    cases es with
    | cons e es => simp [chkFs] at h
    | nil => exact ⟨[], .nil, fs_nil⟩
  | x :: xs, es, h => by
    cases es with
    | nil => simp [chkFs] at h
    | cons e es =>
      simp only [chkFs, Bool.and_eq_true] at h
      obtain ⟨h1, h2⟩ := h
      obtain ⟨ts, k1, k2⟩ := sndFs O tk xs es h2
      split at h1 <;> try cases h1
      · simp only [Bool.and_eq_true, decide_eq_true_eq] at h1
        obtain ⟨h3, h4⟩ := h1
        subst h3
        exact ⟨_, .cons (pe_fmt (sndE O tk x _ h4)) k1, fs_cons (fun σ H Q q => fs_fmt q) k2⟩
      · rename_i d1 i1 p1
        obtain ⟨y0, rfl⟩ : ∃ y0, x = .ks y0 := by
          cases x <;> simp [chkE] at h1
          exact ⟨_, rfl⟩
        exact ⟨_, .cons (sndE O tk (.ks y0) _ h1) k1, fs_cons (fun σ H Q q => fs_cst q) k2⟩
theorem sndPs {c : Dc} {X : Cx} {Wx : WX} (O : Ok T p C c X d) (tk : Takes X Wx) : ∀ (ps : List Ex) (ks : List (Option Expr)) (vs : List Expr) (pos : Pos), chkPs p c ps ks vs = true → ∃ trs, PPs X pos ks vs trs ∧ ks.all (·.isSome) = true ∧ ks.length = vs.length ∧ ∀ (σ : L2.St) (H : Hp) (Q : List (V × V) → Hp → Prop), tM (T.g X) Wx (RPs X.K) (fun ρ => evPs C ρ ps) σ H Q → tPairs trs σ H Q
  | [], ks, vs, pos, h => by
    simp only [chkPs, Bool.and_eq_true, List.isEmpty_iff] at h
    obtain ⟨rfl, rfl⟩ := h
    exact ⟨[], pps_nil, rfl, rfl, ps_nil⟩
  | [_], ks, vs, pos, h => by simp [chkPs] at h
  | k :: v :: r, ks, vs, pos, h => by
    simp only [chkPs] at h
    split at h <;> try cases h
    rename_i ke ks ve vs
    simp only [Bool.and_eq_true] at h
    obtain ⟨⟨h1, h2⟩, h3⟩ := h
    obtain ⟨trs, k1, k2, k3, k4⟩ := sndPs O tk r ks vs pos h3
    exact ⟨_, pps_cons (sndE O tk k _ h1) (sndE O tk v _ h2) k1, by rw [List.all_cons, k2]; rfl, by simp [k3], ps_cons k4⟩
theorem sndTs {c : Dc} {X : Cx} {Wx : WX} (O : Ok T p C c X d) (tk : Takes X Wx) : ∀ (cs : List Tx) (ifs : List Expr), ifs.length ≤ 1 → chkTs p c cs ifs = true → PTs X ifs (tM (T.g X) Wx RB fun ρ => tsAnd C ρ cs)
  | [], ifs, hl, h => pts_ok hl h fun t ht => by simp at ht
  | t :: cs, ifs, hl, h => pts_ok1 hl h fun e he => sndT O tk t e he
theorem sndI {c : Dc} {X : Cx} {Wx : WX} (O : Ok T p C c X d) (tk : Takes X Wx) : ∀ (it : It) (tg e : Expr), chkI p c it tg e = true → PI X tg e (tI T C Wx X it)
  | .e x, tg, e, h => pi_e (sndE O tk x e h)
  | .rng xs, tg, e, h => by
    simp only [chkI] at h
    split at h <;> try cases h
    simp only [Bool.and_eq_true] at h
    obtain ⟨⟨h1, h2⟩, h3⟩ := h
    have ha := sndEs O tk xs _ h2
    exact pi_rngs O h1 h2 h3 ha
  | .enum x, tg, e, h => by
    simp only [chkI] at h
    split at h <;> try cases h
    simp only [Bool.and_eq_true] at h
    exact pi_en O h.1 h.2 (sndE O tk x _ h.2)
  | .zip x y, tg, e, h => by
    simp only [chkI] at h
    split at h <;> try cases h
    simp only [Bool.and_eq_true] at h
    exact pi_zp O h.1.1 h.1.2 h.2 (sndE O tk x _ h.1.2) (sndE O tk y _ h.2)
theorem sndG {c : Dc} {X : Cx} {Wx : WX} (O : Ok T p C c X d) (tk : Takes X Wx) : ∀ (t : Tgt) (e : Expr), chkG p c t e = true → PG X e (tG T C Wx X t)
  | .nm i, e, h => by
    simp only [chkG] at h
    split at h <;> try cases h
    simp only [Bool.and_eq_true, decide_eq_true_eq] at h
    obtain ⟨⟨h1, h2⟩, h3⟩ := h
    exact pg_nm O h1 h2 h3
  | .tup ts, e, h => by
    simp only [chkG] at h
    split at h <;> try cases h
    simp only [Bool.and_eq_true] at h
    exact pg_tp O h.1 h.2 (sndGs O tk ts _ h.1 h.2)
  | .sub o i, e, h => by
    simp only [chkG] at h
    split at h <;> try cases h
    simp only [Bool.and_eq_true] at h
    exact pg_sb O h.2 (sndE O tk o _ h.1) (sndE O tk i _ h.2)
  | .fld o f, e, h => by
    simp only [chkG] at h
    split at h <;> try cases h
    simp only [Bool.and_eq_true, decide_eq_true_eq] at h
    exact pg_fl O h.1.2 (sndE O tk o _ h.2)
theorem sndGs {c : Dc} {X : Cx} {Wx : WX} (O : Ok T p C c X d) (tk : Takes X Wx) : ∀ (ts : List Tgt) (es : List Expr), tgPls ts = true → chkGs p c ts es = true → PGs X es (tGs T C Wx X ts)
  | [], es, hp, h => by
    cases es with
    | cons e es => simp [chkGs] at h
    | nil => exact pgs_nl
  | t :: ts, es, hp, h => by
    cases es with
    | nil => simp [chkGs] at h
    | cons e es =>
      simp only [chkGs, Bool.and_eq_true] at h
      simp only [tgPls, Bool.and_eq_true] at hp
      exact pgs_cn hp.1 hp.2 h.1 (sndG O tk t e h.1) (sndGs O tk ts es hp.2 h.2)
theorem sndEs {c : Dc} {X : Cx} {Wx : WX} (O : Ok T p C c X d) (tk : Takes X Wx) : ∀ (xs : List Ex) (es : List Expr), chkEs p c xs es = true → PA X es (tA T C Wx X xs)
  | [], es, h => by
    cases es with
    | cons e es => simp [chkEs] at h
    | nil => exact PA_imp pa_nil fun σ H Q ⟨m, ρ, L, S, F, q⟩ => run_ret (R := RelWs X.K) q S .nil
  | x :: xs, es, h => by
    cases es with
    | nil => simp [chkEs] at h
    | cons e es =>
      simp only [chkEs, Bool.and_eq_true] at h
      refine PA_imp (pa_cons (sndE O tk x _ h.1) (sndEs O tk xs _ h.2) (star_plain h.1 es X.env)) fun σ H Q q => ?_
      exact (tM_bnd (R' := RelW X.K) q).imp fun v H1 ⟨m1, ρ, L1, w, S1, F1, r1, q1⟩ => ⟨m1, ρ, L1, S1, F1, (run_bnd (R' := RelWs X.K) q1).imp fun vs H2 ⟨m2, L2, ws, e2, S2, r2, q2⟩ => run_ret (R := RelWs X.K) q2 S2 (.cons (r1.mono e2) r2)⟩
theorem sndKs {c : Dc} {X : Cx} {Wx : WX} (O : Ok T p C c X d) (tk : Takes X Wx) : ∀ (xs : List Ex) (ks : List Keyword), chkEs p c xs (ks.map (·.value)) = true → PK X ks (tA T C Wx X xs)
  | [], ks, h => by
    cases ks with
    | cons e es => simp [chkEs] at h
    | nil => exact ⟨fun pos pins s σ H Q I ⟨m, ρ, L, S, F, q⟩ => pk_nil.run pos pins s σ H Q I (run_ret (R := RelWs X.K) q S .nil)⟩
  | x :: xs, ks, h => by
    cases ks with
    | nil => simp [chkEs] at h
    | cons k ks =>
      obtain ⟨nm, e, kp⟩ := k
      simp only [List.map_cons, chkEs, Bool.and_eq_true] at h
      refine ⟨fun pos pins s σ H Q I q => (pk_cons (sndE O tk x _ h.1) (sndKs O tk xs ks h.2)).run pos pins s σ H Q I ?_⟩
      exact (tM_bnd (R' := RelW X.K) q).imp fun v H1 ⟨m1, ρ, L1, w, S1, F1, r1, q1⟩ => ⟨m1, ρ, L1, S1, F1, (run_bnd (R' := RelWs X.K) q1).imp fun vs H2 ⟨m2, L2, ws, e2, S2, r2, q2⟩ => run_ret (R := RelWs X.K) q2 S2 (.cons (r1.mono e2) r2)⟩
theorem sndO {c : Dc} {X : Cx} {Wx : WX} (O : Ok T p C c X d) (tk : Takes X Wx) : ∀ (x : Option Ex) (e : Option Expr), chkO p c x e = true → PO X e (tM (T.g X) Wx (fun _ _ (x y : Option Int) => x = y) fun ρ => evO C ρ x)
  | none, e, h => by
    cases e with
    | some e => simp [chkO] at h
    | none => exact ⟨fun pins s σ H Q I ⟨m, ρ, L, S, F, q⟩ => po_none.run pins s σ H Q I (run_ret (R := fun _ _ (x y : Option Int) => x = y) q S rfl)⟩
  | some x, e, h => by
    cases e with
    | none => simp [chkO] at h
    | some e =>
      simp only [chkO] at h
      refine ⟨fun pins s σ H Q I q => (po_some (sndE O tk x _ h)).run pins s σ H Q I ?_⟩
      refine (tM_bnd (R' := RelW X.K) q).imp fun v H1 ⟨m1, ρ, L1, w, S1, F1, r1, q1⟩ => ?_
      cases w <;> try exact False.elim q1
      cases r1
      exact ⟨_, rfl, run_ret (R := fun _ _ (x y : Option Int) => x = y) q1 S1 rfl⟩
theorem sndAnd {c : Dc} {X : Cx} {Wx : WX} (O : Ok T p C c X d) (tk : Takes X Wx) : ∀ (xs : List Ex) (es : List Expr) (pos : Pos), chkEs p c xs es = true → es ≠ [] → PE X (.BoolOp .And es pos) (tM (T.g X) Wx (RelW X.K) fun ρ => evAnd C ρ xs)
  | [], es, pos, h, hn => by
    cases es with
    | cons e es => simp [chkEs] at h
    | nil => exact absurd rfl hn
  | x :: xs, es, pos, h, hn => by
    cases es with
    | nil => exact absurd rfl hn
    | cons e es =>
      simp only [chkEs, Bool.and_eq_true] at h
      cases es with
      | nil =>
        cases xs with
        | cons x2 xs => simp [chkEs] at h
        | nil => exact PE_imp (pe_one (sndE O tk x _ h.1)) fun σ H Q q => (tM_bnd (R' := RelW X.K) q).imp fun v H1 ⟨m1, ρ, L1, w, S1, F1, r1, q1⟩ => run_val q1 S1 r1
      | cons e2 es =>
        cases xs with
        | nil => simp [chkEs] at h
        | cons x2 xs =>
          refine PE_imp (pe_and (sndE O tk x _ h.1) (sndAnd O tk (x2 :: xs) (e2 :: es) pos h.2 (by simp))) fun σ H Q q => ?_
          refine (tM_bnd (R' := RelW X.K) q).imp fun v H1 ⟨m1, ρ, L1, w, S1, F1, r1, q1⟩ => ?_
          rw [if_neg (by simp)] at q1
          cases w <;> try exact False.elim q1
          rename_i k
          cases r1
          refine ⟨k, rfl, ?_⟩
          cases k
          · rw [if_neg (by simp)]; exact run_val q1 S1 (.bl _)
          · rw [if_pos rfl]; exact ⟨m1, ρ, L1, S1, F1, q1⟩
theorem sndOr {c : Dc} {X : Cx} {Wx : WX} (O : Ok T p C c X d) (tk : Takes X Wx) : ∀ (xs : List Ex) (es : List Expr) (pos : Pos), chkEs p c xs es = true → es ≠ [] → PE X (.BoolOp .Or es pos) (tM (T.g X) Wx (RelW X.K) fun ρ => evOr C ρ xs)
  | [], es, pos, h, hn => by
    cases es with
    | cons e es => simp [chkEs] at h
    | nil => exact absurd rfl hn
  | x :: xs, es, pos, h, hn => by
    cases es with
    | nil => exact absurd rfl hn
    | cons e es =>
      simp only [chkEs, Bool.and_eq_true] at h
      cases es with
      | nil =>
        cases xs with
        | cons x2 xs => simp [chkEs] at h
        | nil => exact PE_imp (pe_one (sndE O tk x _ h.1)) fun σ H Q q => (tM_bnd (R' := RelW X.K) q).imp fun v H1 ⟨m1, ρ, L1, w, S1, F1, r1, q1⟩ => run_val q1 S1 r1
      | cons e2 es =>
        cases xs with
        | nil => simp [chkEs] at h
        | cons x2 xs =>
          refine PE_imp (pe_or (sndE O tk x _ h.1) (sndOr O tk (x2 :: xs) (e2 :: es) pos h.2 (by simp))) fun σ H Q q => ?_
          refine (tM_bnd (R' := RelW X.K) q).imp fun v H1 ⟨m1, ρ, L1, w, S1, F1, r1, q1⟩ => ?_
          rw [if_neg (by simp)] at q1
          cases w <;> try exact False.elim q1
          rename_i k
          cases r1
          refine ⟨k, rfl, ?_⟩
          cases k
          · rw [if_neg (by simp)]; exact ⟨m1, ρ, L1, S1, F1, q1⟩
          · rw [if_pos rfl]; exact run_val q1 S1 (.bl _)
theorem sndT {c : Dc} {X : Cx} {Wx : WX} (O : Ok T p C c X d) (tk : Takes X Wx) : ∀ (x : Tx) (e : Expr), chkT p c x e = true → PT X e (tT T C Wx X x)
  | .val x, e, h => by
    have hc : chkE p c x e = true := by
      simp only [chkT] at h
      split at h <;> first | exact h | cases h
    have he : ∀ whole, isTrue e X.env whole = (do let v ← whole; standAt e.pos; holding [v] (truthy v)) := by
      intro whole
      simp only [chkT] at h
      split at h <;> first | (cases h; done) | skip
      rename_i n1 n2 n3 n4
      cases e <;> first | rfl | exact absurd rfl (n1 _ _ _) | exact absurd rfl (n2 _ _ _ _) | exact absurd rfl (n3 _ _ _ _) | skip
      rename_i op _ _
      cases op <;> first | rfl | exact absurd rfl (n4 _ _)
    refine ⟨fun pins s σ H Q I q => ?_⟩
    exact isTrue_plain (thn ((sndE O tk x _ hc).run pins s σ H _ I (tOp_tru q)) fun v s1 ⟨x, H1, I1, r1, q1⟩ => tru_ok' pins s1 σ H1 x v Q I1 r1 q1) (he _)
  | .bv x, e, h => by
    cases e <;> simp only [chkT] at h <;> try cases h
    cases x <;> simp only [chkE] at h <;> try cases h
    · rename_i op a b
      split at h <;> try cases h
      rename_i heq
      injection heq with e1 e2 e3 e4
      subst e1 e2 e3 e4
      simp only [Bool.and_eq_true, decide_eq_true_eq] at h
      obtain ⟨⟨h1, h2⟩, h3⟩ := h
      subst h1
      refine PT_imp (pt_cmpR (op_cmpX_ok (Wx := Wx) O op) (sndE O tk a _ h2) (sndE O tk b _ h3) (markE h3 _)) fun σ H Q q => ?_
      have q2 := tOp_bv q
      exact tOp_of q2
    · rename_i o1 o2 a b d
      split at h <;> try cases h
      rename_i heq
      injection heq with e1 e2 e3 e4
      subst e1 e2 e3 e4
      simp only [Bool.and_eq_true, decide_eq_true_eq] at h
      obtain ⟨⟨⟨⟨h1, h2⟩, h3⟩, h4⟩, h5⟩ := h
      subst h1 h2
      refine PT_imp (pt_chain (op_cmp_ok (T := T) (Xw := ofW Wx) (hu64 O.room) o1) (op_cmp_ok (T := T) (Xw := ofW Wx) (hu64 O.room) o2) (sndE O tk a _ h3) (sndE O tk b _ h4) (sndE O tk d _ h5) (by show behindInMarks _ _ = false; exact markE h5 _)) fun σ H Q q => ?_
      have q := tOp_bv q
      refine (tM_bnd (R' := RelW X.K) q).imp fun v H1 ⟨m1, ρ, L1, x, S1, F1, r1, q1⟩ => ⟨m1, ρ, L1, S1, F1, (run_bnd (R' := RelW X.K) q1).imp fun v2 H2 ⟨m2, L2, y, e2, S2, r2, q2⟩ => ?_⟩
      refine ⟨σ, m2, L2, x, y, S2, r1.mono e2, r2, (run_bnd (R' := RelW X.K) q2).imp fun v3 H3 ⟨m3, L3, z, e3, S3, r3, q3⟩ => ?_⟩
      cases z <;> try exact False.elim q3
      rename_i k
      cases r3
      refine ⟨k, rfl, ?_⟩
      cases k
      · rw [if_neg (by simp)]
        exact run_val q3 S3 (.bl _)
      · rw [if_pos rfl]
        exact ⟨m3, ρ, L3, S3, (F1.mono e2).mono e3, (run_bnd (R' := RelW X.K) q3).imp fun v4 H4 ⟨m4, L4, z4, e4, S4, r4, q4⟩ => ⟨σ, m4, L4, y, z4, S4, (r2.mono e3).mono e4, r4, q4⟩⟩
    · rename_i ng x0 gn ks0
      split at h <;> try cases h
      rename_i heq
      injection heq with e1 e2 e3 e4
      subst e1 e2 e3 e4
      simp only [Bool.and_eq_true, decide_eq_true_eq] at h
      obtain ⟨⟨⟨⟨h1, h2⟩, h3⟩, h4⟩, h5⟩ := h
      subst h1 h3
      obtain ⟨a, e1, op⟩ := kin_all O (ng := ng) h5
      obtain ⟨g1, g2⟩ := O.gl h4
      refine PT_imp (pt_cmpR op (sndE O tk x0 _ h2) (pe_glob (v := .ref a) g1 e1 rfl g2) (by cases ng <;> rfl)) fun σ H Q q => ?_
      exact tOp_kin (tOp_bv q)
  | .all ts, e, h => by
    simp only [chkT] at h
    split at h <;> try cases h
    simp only [Bool.and_eq_true] at h
    exact (sndAll O tk ts _ _ h.1 (by simpa using h.2)).pt
  | .any ts, e, h => by
    simp only [chkT] at h
    split at h <;> try cases h
    simp only [Bool.and_eq_true] at h
    exact (sndAny O tk ts _ _ h.1 (by simpa using h.2)).pt
  | .nt t, e, h => by
    simp only [chkT] at h
    split at h <;> try cases h
    refine PT_imp (pt_not (sndT O tk t _ h)) fun σ H Q q => ?_
    exact (tM_bnd (R' := RB) q).imp fun v H1 ⟨m1, ρ, L1, w, S1, F1, r1, q1⟩ => by
      have r1 : w = v := r1
      subst r1
      exact run_ret (R := RB) q1 S1 rfl
theorem sndAll {c : Dc} {X : Cx} {Wx : WX} (O : Ok T p C c X d) (tk : Takes X Wx) : ∀ (xs : List Tx) (es : List Expr) (pos : Pos), chkTs p c xs es = true → es ≠ [] → PW X (.BoolOp .And es pos) (tM (T.g X) Wx RB fun ρ => tsAnd C ρ xs)
  | [], es, pos, h, hn => by
    cases es with
    | cons e es => simp [chkTs] at h
    | nil => exact absurd rfl hn
  | x :: xs, es, pos, h, hn => by
    cases es with
    | nil => exact absurd rfl hn
    | cons e es =>
      simp only [chkTs, Bool.and_eq_true] at h
      cases es with
      | nil =>
        cases xs with
        | cons x2 xs => simp [chkTs] at h
        | nil =>
          refine PW_imp (pw_and1 (sndT O tk x _ h.1)) fun σ H Q q => (tM_bnd (R' := RB) q).imp fun k H1 ⟨m1, ρ, L1, w, S1, F1, r1, q1⟩ => ?_
          have r1 : w = k := r1
          subst r1
          cases w
          · rw [if_neg (by simp)] at q1; exact run_ret (R := RB) q1 S1 rfl
          · rw [if_pos rfl] at q1; exact run_ret (R := RB) q1 S1 rfl
      | cons e2 es =>
        cases xs with
        | nil => simp [chkTs] at h
        | cons x2 xs =>
          refine PW_imp (pw_and (sndT O tk x _ h.1) (sndAll O tk (x2 :: xs) (e2 :: es) pos h.2 (by simp))) fun σ H Q q => ?_
          refine (tM_bnd (R' := RB) q).imp fun k H1 ⟨m1, ρ, L1, w, S1, F1, r1, q1⟩ => ?_
          have r1 : w = k := r1
          subst r1
          cases w
          · rw [if_neg (by simp)] at q1 ⊢; exact run_ret (R := RB) q1 S1 rfl
          · rw [if_pos rfl] at q1 ⊢; exact ⟨m1, ρ, L1, S1, F1, q1⟩
theorem sndAny {c : Dc} {X : Cx} {Wx : WX} (O : Ok T p C c X d) (tk : Takes X Wx) : ∀ (xs : List Tx) (es : List Expr) (pos : Pos), chkTs p c xs es = true → es ≠ [] → PW X (.BoolOp .Or es pos) (tM (T.g X) Wx RB fun ρ => tsOr C ρ xs)
  | [], es, pos, h, hn => by
    cases es with
    | cons e es => simp [chkTs] at h
    | nil => exact absurd rfl hn
  | x :: xs, es, pos, h, hn => by
    cases es with
    | nil => exact absurd rfl hn
    | cons e es =>
      simp only [chkTs, Bool.and_eq_true] at h
      cases es with
      | nil =>
        cases xs with
        | cons x2 xs => simp [chkTs] at h
        | nil =>
          refine PW_imp (pw_or1 (sndT O tk x _ h.1)) fun σ H Q q => (tM_bnd (R' := RB) q).imp fun k H1 ⟨m1, ρ, L1, w, S1, F1, r1, q1⟩ => ?_
          have r1 : w = k := r1
          subst r1
          cases w
          · rw [if_neg (by simp)] at q1; exact run_ret (R := RB) q1 S1 rfl
          · rw [if_pos rfl] at q1; exact run_ret (R := RB) q1 S1 rfl
      | cons e2 es =>
        cases xs with
        | nil => simp [chkTs] at h
        | cons x2 xs =>
          refine PW_imp (pw_or (sndT O tk x _ h.1) (sndAny O tk (x2 :: xs) (e2 :: es) pos h.2 (by simp))) fun σ H Q q => ?_
          refine (tM_bnd (R' := RB) q).imp fun k H1 ⟨m1, ρ, L1, w, S1, F1, r1, q1⟩ => ?_
          have r1 : w = k := r1
          subst r1
          cases w
          · rw [if_neg (by simp)] at q1 ⊢; exact ⟨m1, ρ, L1, S1, F1, q1⟩
          · rw [if_pos rfl] at q1 ⊢; exact run_ret (R := RB) q1 S1 rfl
end
end
end Dx

set_option maxRecDepth 100000
set_option maxHeartbeats 4000000
namespace Dx
open PySem PySem.Spec PyProof.Rows L2
/-- a plain local name on the line -/
def locN (sc : Scope) (line : Nat) : Expr → Bool
  | .Name id pos => decide (sc.names.lookup id = some .local) && pos.line == line
  | _ => false
def headLn (ts : List Expr) : Nat := (ts.head?.map (·.pos.line)).getD 0
def noSw2 (sc : Scope) : Expr → Expr → Bool
  | .Tuple ts _ _, .Tuple vs _ _ => (ts.any fun t => !locN sc (headLn ts) t) || vs.all (foldedForSure 8)
  | .List ts _, .Tuple _ _ _ => ts.any fun t => !locN sc (headLn ts) t
  | _, _ => false
theorem fm_ne {f : Expr → Option Str} {ts : List Expr} (h : ∃ t ∈ ts, f t = none) : (ts.filterMap f).length ≠ ts.length := Nat.ne_of_lt (List.length_filterMap_lt_length_iff_exists.mpr (let ⟨t, a, b⟩ := h; ⟨t, a, b⟩))
theorem sw_ts {ts : List Expr} {env : PySem.Env} (h : (ts.any fun t => !locN env.scope (headLn ts) t) = true) : ∃ t ∈ ts, (match t with
    | .Name id pos => if (env.kindOf id == some .local && pos.line == headLn ts) = true then some id else none
    | _ => (none : Option Str)) = none := by
  obtain ⟨t, ht, hn⟩ := List.any_eq_true.mp h
  refine ⟨t, ht, ?_⟩
  cases t <;> try rfl
  rename_i id pos
  simp only [locN, Bool.not_eq_true', Bool.and_eq_false_iff, decide_eq_false_iff_not] at hn
  show (if (env.kindOf id == some .local && pos.line == headLn ts) = true then some id else none) = none
  rw [if_neg]
  intro z
  simp only [Bool.and_eq_true, beq_iff_eq] at z
  rcases hn with hn | hn
  · exact hn z.1
  · rw [z.2] at hn
    simp at hn
theorem noSw2_st {tg e : Expr} {env : PySem.Env} (h : noSw2 env.scope tg e = true) : swappedStores [tg] e env = pure none := by
  cases tg <;> cases e
  case Tuple.Tuple ts k pos vs k2 pos2 =>
    rcases Bool.or_eq_true_iff.mp (show ((ts.any fun t => !locN env.scope (headLn ts) t) || vs.all (foldedForSure 8)) = true from h) with h | h
    · have z := fm_ne (sw_ts (env := env) h)
      unfold headLn at z
      unfold swappedStores
      simp only []
      split
      · rfl
      · split
        · rfl
        · rw [if_pos]
          simp only [Bool.or_eq_true, bne_iff_ne, ne_eq]
          exact .inl z
    · unfold swappedStores
      simp only []
      split
      · rfl
      · split
        · rfl
        · split
          · rfl
          · rfl
  case List.Tuple ts pos vs k2 pos2 =>
    have z := fm_ne (sw_ts (env := env) h)
    unfold headLn at z
    unfold swappedStores
    simp only []
    split
    · rfl
    · split
      · rfl
      · rw [if_pos]
        simp only [Bool.or_eq_true, bne_iff_ne, ne_eq]
        exact .inl z
  all_goals (simp [noSw2] at h)
def starsB (vs : List Expr) : Bool := vs.any fun
  | .Starred .. => true
  | _ => false
def isLoc (sc : Scope) (x : Str) : Bool := decide (sc.names.lookup x = some .local)
theorem par_st {y z : Str} {py pz tp vp : Pos} {k k2 : Nat} {ea eb : Expr} {env : PySem.Env} (h1 : env.scope.names.lookup y = some .local) (h2 : env.scope.names.lookup z = some .local) (hl : (pz.line == py.line) = true) (hyz : y ≠ z) (hk : env.scope.kind = .function) (hs : starsB [ea, eb] = false) (hf : [ea, eb].all (foldedForSure 8) = false) (hc : [ea, eb].all (constantsAlone 8) = false) :
    swappedStores [.Tuple [.Name y py, .Name z pz] k tp] (.Tuple [ea, eb] k2 vp) env = pure (some [y, z]) := by
  have b1 : env.blockKind = .function := by unfold PySem.Env.blockKind; rw [hk]; rfl
  have k1 : env.kindOf y = some .local := h1
  have k3 : env.kindOf z = some .local := h2
  have p1 : (Expr.Name y py).pos = py := rfl
  have e1 : ([y, z] : List Str).eraseDups.length = 2 := by
    have : (z == y) = false := by simpa using fun q => hyz q.symm
    simp [List.eraseDups_cons, this]
  unfold starsB at hs
  unfold swappedStores
  simp only [b1, k1, k3, hl, List.head?_cons, Option.map_some, Option.getD_some, p1, List.filterMap_cons, List.filterMap_nil, beq_self_eq_true, Bool.and_self, if_true, hs, hf, hc, List.length_cons, List.length_nil]
  simp [e1]
  intro q
  simp at hs
  rcases q with q | q
  · exfalso; have z := hs.1; cases ea <;> first | (cases q; done) | cases z
  · exfalso; have z := hs.2; cases eb <;> first | (cases q; done) | cases z
theorem par3_st {y z u : Str} {py pz pu tp vp : Pos} {k k2 : Nat} {ea eb ed : Expr} {env : PySem.Env} (h1 : env.scope.names.lookup y = some .local) (h2 : env.scope.names.lookup z = some .local) (h3 : env.scope.names.lookup u = some .local) (hl : (pz.line == py.line) = true) (hl2 : (pu.line == py.line) = true) (hyz : y ≠ z) (hyu : y ≠ u) (hzu : z ≠ u) (hk : env.scope.kind = .function)
    (hs : starsB [ea, eb, ed] = false) (hf : [ea, eb, ed].all (foldedForSure 8) = false) (hc : [ea, eb, ed].all (constantsAlone 8) = false) :
    swappedStores [.Tuple [.Name y py, .Name z pz, .Name u pu] k tp] (.Tuple [ea, eb, ed] k2 vp) env = pure (some [y, z, u]) := by
  have b1 : env.blockKind = .function := by unfold PySem.Env.blockKind; rw [hk]; rfl
  have k1 : env.kindOf y = some .local := h1
  have k3 : env.kindOf z = some .local := h2
  have k4 : env.kindOf u = some .local := h3
  have p1 : (Expr.Name y py).pos = py := rfl
  have e1 : ([y, z, u] : List Str).eraseDups.length = 3 := by
    have a1 : (z == y) = false := by simpa using fun q => hyz q.symm
    have a2 : (u == y) = false := by simpa using fun q => hyu q.symm
    have a3 : (u == z) = false := by simpa using fun q => hzu q.symm
    simp [List.eraseDups_cons, a1, a2, a3]
  unfold starsB at hs
  unfold swappedStores
  simp only [b1, k1, k3, k4, hl, hl2, List.head?_cons, Option.map_some, Option.getD_some, p1, List.filterMap_cons, List.filterMap_nil, beq_self_eq_true, Bool.and_self, if_true, hs, hf, hc, List.length_cons, List.length_nil]
  simp [e1]
  intro q
  simp at hs
  rcases q with q | q | q
  · exfalso; have z := hs.1; cases ea <;> first | (cases q; done) | cases z
  · exfalso; have z := hs.2.1; cases eb <;> first | (cases q; done) | cases z
  · exfalso; have z := hs.2.2; cases ed <;> first | (cases q; done) | cases z
end Dx

set_option maxRecDepth 100000
set_option maxHeartbeats 4000000
/-! Dx7: statements. -/
namespace Dx
open PySem PySem.Spec PyProof.Rows L2

def iopP : BOp → Operator := bopP
def noComp : Expr → Bool
  | .ListComp .. => false
  | .SetComp .. => false
  | .DictComp .. => false
  | _ => true
/-- not a pair of displays -/
def noSwap : Expr → Expr → Bool
  | .Tuple .., .Tuple .. => false
  | .List .., .Tuple .. => false
  | _, _ => true
/-- name = [..] on one line -/
def swB (c : Dc) (y : Str) (py : Pos) : Expr → Bool
  | .ListComp _ [⟨_, _, _, a⟩] scope pos => decide (a = 0) && (match c.sc.kind with
    | .function => true
    | _ => false) && (match c.sc.names.lookup y with
    | some .local => true
    | _ => false) && (py.line == pos.line) && !(scope.names.any fun (n, k) => n == y && (k == .local || k == .cell))
  | _ => false
def notName : Expr → Bool
  | .Attribute .. => true
  | .Subscript .. => true
  | .Tuple .. => true
  | _ => false
def fnKind (sc : Scope) : Bool := match sc.kind with
  | .function => true
  | _ => false
/-- a, b = x, y with plain local names -/
def parB (p : Pg) (c : Dc) (t : Tgt) (x : Ex) (tg e : Expr) : Bool := match t, x, tg, e with
  | .tup [.nm i, .nm j], .tup [a, b], .Tuple [.Name y py, .Name z pz] _ _, .Tuple [ea, eb] _ _ =>
    decide (i ≠ j) && decide (y ≠ z) && decide (c.N[i]? = some y) && decide (c.N[j]? = some z) && isLoc c.sc y && isLoc c.sc z && (pz.line == py.line) && fnKind c.sc && !starsB [ea, eb] && !([ea, eb].all (foldedForSure 8)) && !([ea, eb].all (constantsAlone 8)) && chkEs p c [a, b] [ea, eb]
  | _, _, _, _ => false
def par3B (p : Pg) (c : Dc) (t : Tgt) (x : Ex) (tg e : Expr) : Bool := match t, x, tg, e with
  | .tup [.nm i, .nm j, .nm k], .tup [a, b, d], .Tuple [.Name y py, .Name z pz, .Name u pu] _ _, .Tuple [ea, eb, ed] _ _ =>
    decide (i ≠ j) && decide (i ≠ k) && decide (j ≠ k) && decide (y ≠ z) && decide (y ≠ u) && decide (z ≠ u) && decide (c.N[i]? = some y) && decide (c.N[j]? = some z) && decide (c.N[k]? = some u) && isLoc c.sc y && isLoc c.sc z && isLoc c.sc u && (pz.line == py.line) && (pu.line == py.line) && fnKind c.sc && !starsB [ea, eb, ed] && !([ea, eb, ed].all (foldedForSure 8)) && !([ea, eb, ed].all (constantsAlone 8)) && chkEs p c [a, b, d] [ea, eb, ed]
  | _, _, _, _ => false
mutual
def chkS (p : Pg) (c : Dc) : Sm → Stmt → Bool
  | .asg t x, s => (match s with
    | .Assign [tg] e _ => (chkE p c x e && chkG p c t tg && (noSwap tg e || noSw2 c.sc tg e) && (noComp e || notName tg || (match t, tg with
      | .nm _, .Name y py => swB c y py e
      | _, _ => false))) || parB p c t x tg e || par3B p c t x tg e
    | _ => false)
  | .aug i op x, s => (match s with
    | .AugAssign (.Name y _) o e _ => decide (o = bopP op) && decide (c.N[i]? = some y) && locB c.sc y && c.asn.contains y && chkE p c x e
    | _ => false)
  | .augf o f op x, s => (match s with
    | .AugAssign (.Attribute l n _) op' e _ => decide (op' = bopP op) && noSup l && decide (p.fld[f]? = some n) && chkE p c o l && chkE p c x e
    | _ => false)
  | .nev, _ => true
  | .rse _ _, _ => false
  | .exp x, s => (match s with
    | .Expr e _ => chkE p c x e && noComp e
    | _ => false)
  | .ifs t a b, s => (match s with
    | .If e u v _ => chkT p c t e && chkSs p c a u && chkSs p c b v
    | _ => false)
  | .whl t b, s => (match s with
    | .While e u [] _ => chkT p c t e && chkSs p c b u
    | _ => false)
  | .fors t it b, s => (match s with
    | .For tg e u [] _ => chkI p c it tg e && chkG p c t tg && chkSs p c b u
    | _ => false)
  | .rtn x, s => (match s with
    | .Return (some e) _ => chkE p c x e
    | _ => false)
  | .rtnN, s => (match s with
    | .Return none _ => true
    | _ => false)
  | .pas, s => (match s with
    | .Pass _ => true
    | _ => false)
  | .brk, s => (match s with
    | .Break _ => true
    | _ => false)
  | .cnt, s => (match s with
    | .Continue _ => true
    | _ => false)
def chkSs (p : Pg) (c : Dc) : List Sm → List Stmt → Bool
  | [], ss => ss.isEmpty
  | x :: xs, ss => (match ss with
    | s :: ss => chkS p c x s && chkSs p c xs ss
    | [] => false)
end

/-- what a statement's end is to reach -/
def PostS (T : Tab) (W : WX) (X : Cx) (D : Ends) (m : List Addr) (H : Hp) (r : Fl × Fr) (L' : Hh) : Prop :=
  ∀ m' H', Ext m H m' H' → Sim (T.g X) m' L' H' → match r.1 with
    | .nx => ∀ σ', RelF X.K m' H' r.2 σ' → D.nx σ' H'
    | .rt w => ∀ v, RelW X.K m' H' w v → D.rt v H'
    | .bk => ∀ σ', RelF X.K m' H' r.2 σ' → D.bk σ' H'
    | .ct => ∀ σ', RelF X.K m' H' r.2 σ' → D.ct σ' H'
    | .ex e => ∀ σ' cls d, RelF X.K m' H' r.2 σ' → T.rx m' H' e cls d → W cls d σ' H'
theorem PostS.mono {T : Tab} {W : WX} {X : Cx} {D : Ends} {m m1 : List Addr} {H H1 : Hp} {r : Fl × Fr} {L' : Hh} (e : Ext m H m1 H1) (h : PostS T W X D m H r L') : PostS T W X D m1 H1 r L' := fun m' H' e' s => h m' H' (e.trans e') s
abbrev wpS (T : Tab) (W : WX) (X : Cx) (D : Ends) (m : List Addr) (H : Hp) (c : M (Fl × Fr)) (L : Hh) : Prop := wp c L (PostS T W X D m H) fun _ _ => True
theorem wpS.mono {T : Tab} {W : WX} {X : Cx} {D : Ends} {m m1 : List Addr} {H H1 : Hp} {c : M (Fl × Fr)} {L : Hh} (e : Ext m H m1 H1) (h : wpS T W X D m H c L) : wpS T W X D m1 H1 c L := wp_mono h (fun _ _ q => q.mono e) fun _ _ q => q
def tS (T : Tab) (W : WX) (X : Cx) (f : Fr → M (Fl × Fr)) : TS := fun D σ H => ∃ m ρ L, Sim (T.g X) m L H ∧ RelF X.K m H ρ σ ∧ wpS T W X D m H (f ρ) L
section
variable {T : Tab} {p : Pg} {C : Env} {c : Dc} {X : Cx} {d : Nat} {W : WX}
theorem PS_imp {s : Stmt} {t t' : TS} (h : PS X s t) (k : ∀ D σ H, t' D σ H → t D σ H) : PS X s t' := ⟨fun pins st σ H D I q => h.run pins st σ H D I (k D σ H q)⟩
theorem PSs_imp {s : List Stmt} {t t' : TS} (h : PSs X s t) (k : ∀ D σ H, t' D σ H → t D σ H) : PSs X s t' := ⟨fun pins st σ H D I q => h.run pins st σ H D I (k D σ H q)⟩
theorem wpS_sx {γ δ : Type} {R' : List Addr → Hp → γ → δ → Prop} {D : Ends} {m : List Addr} {H : Hp} {L : Hh} {ρ : Fr} {σ : L2.St} {a : M γ} {k : γ → M (Fl × Fr)} (F : RelF X.K m H ρ σ) (h : wpS T W X D m H (sx ρ a k) L) :
    run (T.g X) (ofW W) σ R' a m H L (fun v H1 => ∃ m1 L1 x, Ext m H m1 H1 ∧ Sim (T.g X) m1 L1 H1 ∧ R' m1 H1 x v ∧ wpS T W X D m1 H1 (k x) L1) := by
  unfold wpS at h
  rw [wp_sx] at h
  exact wp_mono h (fun x L1 q m1 H1 v e s r => ⟨m1, L1, x, e, s, r, wpS.mono e q⟩) fun e L1 q m1 H1 cls dd ex s r => q m1 H1 ex s σ cls dd (F.mono ex) r
theorem tS_sx {γ δ : Type} {R' : List Addr → Hp → γ → δ → Prop} {D : Ends} {H : Hp} {σ : L2.St} {a : Fr → M γ} {k : Fr → γ → M (Fl × Fr)} (h : tS T W X (fun ρ => sx ρ (a ρ) (k ρ)) D σ H) :
    tM (T.g X) W R' a σ H (fun v H1 => ∃ m1 ρ L1 x, Sim (T.g X) m1 L1 H1 ∧ RelF X.K m1 H1 ρ σ ∧ R' m1 H1 x v ∧ wpS T W X D m1 H1 (k ρ x) L1) :=
  let ⟨m, ρ, L, S, F, q⟩ := h
  ⟨m, ρ, L, S, F, (wpS_sx F q).imp fun v H1 ⟨m1, L1, x, e, S1, r, q1⟩ => ⟨m1, ρ, L1, x, S1, F.mono e, r, q1⟩⟩
theorem wpS_nx {D : Ends} {m : List Addr} {H : Hp} {L : Hh} {ρ : Fr} {σ : L2.St} (S : Sim (T.g X) m L H) (F : RelF X.K m H ρ σ) (h : wpS T W X D m H (ret (.nx, ρ)) L) : D.nx σ H := h m H (Ext.refl m H) S σ F
theorem wpS_bnd {D : Ends} {m : List Addr} {H : Hp} {L : Hh} {a : M (Fl × Fr)} {k : Fl × Fr → M (Fl × Fr)} (h : wpS T W X D m H (bnd a k) L) : wp a L (fun r L1 => wpS T W X D m H (k r) L1) fun _ _ => True := by
  unfold wpS at h
  rw [wp_bnd] at h
  exact h
/-- the ends of a loop's body -/
theorem post_body {D : Ends} {N : L2.St → Hp → Prop} {m : List Addr} {H : Hp} {r : Fl × Fr} {L' : Hh} {next : Fr → M (Fl × Fr)} (hN : ∀ m' ρ H' σ', Sim (T.g X) m' L' H' → RelF X.K m' H' ρ σ' → Ext m H m' H' → wpS T W X D m' H' (next ρ) L' → N σ' H')
    (h : wpS T W X D m H (match r.1 with
      | .nx => next r.2
      | .ct => next r.2
      | .bk => ret (.nx, r.2)
      | .rt w => ret (.rt w, r.2)
      | .ex e => ret (.ex e, r.2)) L') : PostS T W X { D with nx := N, ct := N, bk := D.nx } m H r L' := by
  obtain ⟨f, ρ⟩ := r
  cases f with
  | nx => exact fun m' H' e S σ' F => hN m' ρ H' σ' S F e (h.mono e)
  | ct => exact fun m' H' e S σ' F => hN m' ρ H' σ' S F e (h.mono e)
  | bk => exact fun m' H' e S σ' F => h m' H' e S σ' F
  | rt w => exact fun m' H' e S v r => h m' H' e S v r
  | ex x => exact fun m' H' e S σ' cls dd F r => h m' H' e S σ' cls dd F r
theorem ps_wh {t : Tx} {b : List Sm} {e : Expr} {u : List Stmt} {pos : Pos} (hp : PassesOwn (model X.prog X.w) X.A X.env X.xe) (h1 : PT X e (tT T C W X t)) (h2 : PSs X u (tS T W X fun ρ => exSs C b ρ)) : PS X (.While e u [] pos) (tS T W X fun ρ => exS C (.whl t b) ρ) := by
  refine PS_imp (ps_while hp h1 h2) fun D σ H ⟨m, ρ, L, S, F, q⟩ => ?_
  refine ⟨fun n σ H => tS T W X (fun ρ => loopW (fun ρ => evT C ρ t) (fun ρ => exSs C b ρ) n ρ) D σ H, ⟨fuel, m, ρ, L, S, F, q⟩, fun n σ H w => ?_⟩
  cases n with
  | zero => obtain ⟨m, ρ, L, S, F, q⟩ := w; exact False.elim q
  | succ n =>
    refine (tS_sx (R' := RB) w).imp fun v H1 ⟨m1, ρ, L1, x, S1, F1, r1, q1⟩ => ?_
    have r1 : x = v := r1
    subst r1
    cases x with
    | false => rw [if_neg (by simp)] at q1 ⊢; exact wpS_nx S1 F1 q1
    | true =>
      rw [if_pos rfl] at q1 ⊢
      refine ⟨fun σ H => tS T W X (fun ρ => loopW (fun ρ => evT C ρ t) (fun ρ => exSs C b ρ) n ρ) D σ H, fun σ' H' w => ⟨n, Nat.lt_succ_self n, w⟩, m1, ρ, L1, S1, F1, ?_⟩
      exact wp_mono (wpS_bnd q1) (fun r L' z => post_body (fun m' ρ H' σ' S F e z => ⟨m', ρ, L', S, F, z⟩) z) fun _ _ z => z
theorem ps_fr {t : Tgt} {it : It} {b : List Sm} {tg e : Expr} {u : List Stmt} {pos : Pos} (hp : PassesOwn (model X.prog X.w) X.A X.env X.xe) (hc : X.calm = true) (h1 : PI X tg e (tI T C W X it)) (hg : PG X tg (tG T C W X t)) (h2 : PSs X u (tS T W X fun ρ => exSs C b ρ)) (hs : ∀ v, foldedSetIterable e X.env v = pure v) :
    PS X (.For tg e u [] pos) (tS T W X fun ρ => exS C (.fors t it b) ρ) := by
  refine PS_imp (ps_for hp hc h1 hg h2 hs) fun D σ H q => ?_
  refine (tS_sx (R' := SrcOk (T.g X)) q).imp fun J H1 ⟨m1, ρ, L1, s, S1, F1, sk, q1⟩ => ?_
  refine ⟨fun i n σ H => ∃ m ρ L, Ext m1 H1 m H ∧ Sim (T.g X) m L H ∧ RelF X.K m H ρ σ ∧ wpS T W X D m H (loopF s (fun w ρ => asgT C t w ρ) (fun ρ => exSs C b ρ) n i ρ) L, ⟨fuel, m1, ρ, L1, Ext.refl _ _, S1, F1, q1⟩, ?_⟩
  rintro i n σ H ⟨m, ρ, L, ex, S, F, q⟩
  cases n with
  | zero => exact False.elim q
  | succ n =>
    have q : wpS T W X D m H (match srcAt L i s with
      | none => fail
      | some none => ret (.nx, ρ)
      | some (some w) => sx ρ (asgT C t w ρ) fun ρ1 => bnd (exSs C b ρ1) fun r => (match r.1 with
        | .nx => loopF s (fun w ρ => asgT C t w ρ) (fun ρ => exSs C b ρ) n (i + 1) r.2
        | .ct => loopF s (fun w ρ => asgT C t w ρ) (fun ρ => exSs C b ρ) n (i + 1) r.2
        | .bk => ret (.nx, r.2)
        | .rt w => ret (.rt w, r.2)
        | .ex e => ret (.ex e, r.2))) L := q
    obtain ⟨k1, k2⟩ := sk m L H ex.x0 S i
    cases es : srcAt L i s with
    | none => rw [es] at q; exact False.elim q
    | some o =>
      cases o with
      | none => rw [es] at q; exact .inl ⟨k2 es, wpS_nx S F q⟩
      | some w =>
        obtain ⟨g1, g2⟩ := k1 w es
        rw [es] at q
        refine .inr ⟨g1, fun σ H => ∃ m ρ L, Ext m1 H1 m H ∧ Sim (T.g X) m L H ∧ RelF X.K m H ρ σ ∧ wpS T W X D m H (loopF s (fun w ρ => asgT C t w ρ) (fun ρ => exSs C b ρ) n (i + 1) ρ) L, fun σ' H' z => ⟨n, Nat.lt_succ_self n, z⟩, fun v H' y => ?_⟩
        obtain ⟨e2, S2, rw2⟩ := g2 v H' y
        refine ⟨m, ρ, L, w, S2, F.mono e2, rw2, (wpS_sx (R' := RG X.K (tgIx t) σ) (F.mono e2) (q.mono e2)).imp fun σ3 H3 ⟨m3, L3, ρ3, e3, S3, ⟨F3, _, _⟩, q3⟩ => ?_⟩
        refine ⟨m3, ρ3, L3, S3, F3, ?_⟩
        exact wp_mono (wpS_bnd q3) (fun r L' z => post_body (fun m' ρ H' σ' S F e z => ⟨m', ρ, L', ((ex.trans e2).trans e3).trans e, S, F, z⟩) z) fun _ _ z => z
theorem pip_ok (op : BOp) (Xw : XW) : PIp X (bopP op) (rO2 (T.g X) Xw (iop op)) := by
  intro pins s σ H x y v u Q I rx ry h
  obtain ⟨σ', m, L, a, b, S, ra, rb, h⟩ := h
  cases op with
  | add =>
    cases a <;> cases b <;> try exact False.elim h
    · cases ra; cases rb
      exact ip_add pins s σ H _ _ v u Q I rx ry ⟨_, _, rfl, rfl, run_val h S (.int _)⟩
    · cases ra; cases rb
      rcases run_if h with ⟨c, h⟩ | ⟨_, h⟩
      · refine iop_add_str pins s σ H _ _ v u Q I rx ry ⟨_, _, rfl, rfl, ?_, ?_⟩
        · rw [str_len, str_len]; exact lenOk_le c
        · rw [str_app]; exact run_val h S (.str _)
      · exact h.elim
    · rename_i l1 l2
      cases ra with
      | @ref _ a1 ha =>
        cases rb with
        | @ref _ a2 hb =>
          have h : run (T.g X) Xw σ' (RelW X.K) (match L[l1]?, L[l2]? with
            | some (.lst x), some (.lst y) => if lenOk (x.length + y.length) then bnd (put l1 (.lst (x ++ y))) fun _ => ret (.ref l1) else fail
            | _, _ => fail) m H L Q := h
          split at h
          · rename_i x y e1 e2
            rcases run_if h with ⟨c, h⟩ | ⟨_, h⟩
            · obtain ⟨xs, h1, r1⟩ := S.lst ha e1
              obtain ⟨ys, h2, r2⟩ := S.lst hb e2
              have hz := lenOk_le c
              rw [r1.length, r2.length] at hz
              refine iop_ext pins s σ H _ _ v u Q I rx ry ⟨_, _, xs, ys, rfl, rfl, h1, h2, hz, ?_⟩
              obtain ⟨ex, S1⟩ := S.put (o' := .lst (x ++ y)) (u := .lst (xs ++ ys)) ha e1 rfl fun ex => ⟨_, upd_same, (r1.append r2).mono ex⟩
              exact h _ _ _ ex S1 (.ref ha)
            · exact h.elim
          · exact h.elim
  | sub =>
    cases a <;> cases b <;> try exact False.elim h
    cases ra; cases rb
    exact ip_sub pins s σ H _ _ v u Q I rx ry ⟨_, _, rfl, rfl, run_val h S (.int _)⟩
  | _ => cases a <;> cases b <;> exact False.elim h
theorem noComp_sw {e : Expr} (h : noComp e = true) (t : Option Expr) (l : Nat) (env : PySem.Env) : swapsWith e t l env = pure false := by
  cases e <;> first | rfl | cases h
theorem notName_sw {tg e : Expr} (h : notName tg = true) (l : Nat) (env : PySem.Env) : swapsWith e (some tg) l env = pure false := by
  cases tg <;> first | (cases e <;> rfl) | (simp [notName] at h)
theorem noSwap_st {tg e : Expr} (h : noSwap tg e = true) (env : PySem.Env) : swappedStores [tg] e env = pure none := by
  cases tg <;> first | rfl | (cases e <;> first | rfl | cases h)
theorem asg1 {t : Tgt} {e : Expr} (h : chkG p c t e = true) (env : PySem.Env) : (assignEach [e] env).map (·.2) = [assign e env] := by
  rw [asgE_plain h]
  rfl
theorem tS_asg {t : Tgt} {x : Ex} {D : Ends} {σ : L2.St} {H : Hp} (q : tS T W X (fun ρ => exS C (.asg t x) ρ) D σ H) : tAsg (tE T C W X x) (tG T C W X t) D σ H :=
  (tS_sx (R' := RelW X.K) q).imp fun v H1 ⟨m1, ρ, L1, w, S1, F1, r1, q1⟩ => ⟨m1, ρ, L1, w, S1, F1, r1, (wpS_sx (R' := RG X.K (tgIx t) σ) F1 q1).imp fun σ2 H2 ⟨m2, L2, ρ2, e2, S2, ⟨F2, _, _⟩, q2⟩ => wpS_nx S2 F2 q2⟩
theorem fxT {x : Sm} {b : Bool} (h : b = true) : b = true := h
theorem nSet {it : It} {tg e : Expr} (h : chkI p c it tg e = true) (env : PySem.Env) (v : Value) : foldedSetIterable e env v = pure v := noSet h env v
/-- name = [..] -/
theorem ps_lc (O : Ok T p C c X d) (tk : Takes X W) {i : Nat} {x : Ex} {y : Str} {py pos : Pos} {e : Expr} (he : chkE p c x e = true) (hg : chkG p c (.nm i) (.Name y py) = true) (hs : swB c y py e = true) : PS X (.Assign [.Name y py] e pos) (tS T W X fun ρ => exS C (.asg (.nm i) x) ρ) := by
  cases e <;> try cases hs
  rename_i elt gs scope lpos
  cases gs with
  | nil => cases hs
  | cons g0 gs =>
    cases gs with
    | cons _ _ => obtain ⟨_, _, _, _⟩ := g0; cases hs
    | nil =>
      obtain ⟨tg, iter, ifs, a⟩ := g0
      simp only [swB, Bool.and_eq_true, decide_eq_true_eq, Bool.not_eq_true'] at hs
      obtain ⟨⟨⟨⟨h1, h2⟩, h3⟩, h4⟩, h5⟩ := hs
      subst h1
      cases x <;> simp only [chkE] at he <;> try cases he
      rename_i own t it cs x
      simp only [Bool.and_eq_true, decide_eq_true_eq] at he
      obtain ⟨⟨⟨⟨⟨⟨⟨⟨_, b2⟩, b3⟩, b4⟩, b5⟩, b6⟩, b7⟩, b8⟩, b9⟩ := he
      simp only [chkG, Bool.and_eq_true, decide_eq_true_eq] at hg
      obtain ⟨⟨k1, k2⟩, k3⟩ := hg
      have hk : X.env.scope.kind = .function := by
        rw [O.sc]
        split at h2
        · assumption
        · cases h2
      have hl : X.env.scope.names.lookup y = some .local := by
        rw [O.sc]
        split at h3
        · assumption
        · cases h3
      refine PS_imp (ps_setLc (wi := tI T C W X it) (g := tG T C WF X t) (tt := tM (T.g X) WF RB fun ρ => tsAnd C ρ cs) (te := tE T C WF X x) O.calm (by rw [O.N]; exact O.nd) (by rw [O.N]; exact k1) hl (sw_true hk hl h4 h5) (sndI O tk it _ _ b5) (blkOk_by (by rw [O.N, O.sc]; exact b2)) (fun s H Cc cl fp => sndG (O.blk b3 s H Cc cl fp) takes0 t _ b6) (fun s H Cc cl fp => sndTs (O.blk b3 s H Cc cl fp) takes0 cs _ b8 b7)
        (fun s H Cc cl fp => sndE (O.blk b3 s H Cc cl fp) takes0 x _ b9) (noSet b5 X.env)) fun D σ H q => ?_
      have q1 := tS_asg q
      exact lc_turns b4 (q1.imp fun v H1 ⟨m, ρ, L, w, S, F, r, q2⟩ => run_ret (R := RG X.K (tgIx (.nm i)) σ) q2 S ⟨F.set r, by simp, fun j hj => List.getElem?_set_ne (fun z => hj (by simp [tgIx, z]))⟩)
end
section
variable {T : Tab} {p : Pg} {C : Env} {c : Dc} {X : Cx} {d : Nat} {W : WX}
theorem ps_augfx (O : Ok T p C c X d) {o x : Ex} {f : Nat} {op : BOp} {l e : Expr} {n : Str} {tpos pos : Pos} (hf : p.fld[f]? = some n) (ho : PE X l (tE T C W X o)) (hx : PE X e (tE T C W X x)) : PS X (.AugAssign (.Attribute l n tpos) (bopP op) e pos) (tS T W X fun ρ => exS C (.augf o f op x) ρ) := by
  refine ⟨fun pins st σ H D I q => ?_⟩
  have q : tS T W X (fun ρ => sx ρ (evE C ρ o) fun ov => sx ρ (fldOf C ov f) fun v => sx ρ (evE C ρ x) fun w => sx ρ (iop op v w) fun z => sx ρ (setFld C ov z f) fun _ => ret (.nx, ρ)) D σ H := q
  refine wpAny_AugAssign_AttributeAny (thn (ho.run pins st σ H _ I (tS_sx (R' := RelW X.K) q)) fun ov s1 ⟨vo, H1, I1, ro, m1, ρ, L1, ow, S1, F1, r1, q1⟩ => ?_)
  have q1 := wpS_sx (R' := RelW X.K) F1 q1
  obtain ⟨l0, rfl⟩ : ∃ l0, ow = .ref l0 := by
    cases ow with
    | ref l0 => exact ⟨l0, rfl⟩
    | _ => exact False.elim q1
  have q1 : run (T.g X) (ofW W) σ (RelW X.K) (match L1[l0]? with
    | some (Dx.O.ins k fs) => if C.cf k f = true then (match getFld fs f with
      | some w => ret w
      | none => fail) else fail
    | _ => fail) m1 H1 L1 _ := q1
  cases r1 with
  | @ref _ a hl =>
    obtain rfl : ov = Value.ref a := ro
    split at q1
    · rename_i k fs e1
      rcases run_if q1 with ⟨c1, q1⟩ | ⟨_, q1⟩
      · obtain ⟨cx, y, e2, e3, e4⟩ := O.cf.cf k f c1
        obtain rfl : n = y := by rw [hf] at e3; exact Option.some.inj e3
        obtain ⟨dx, qs, h1, h2, h3, h4, h9⟩ := S1.ob l0 a _ hl e1
        have h1 : H1 a = some (.ins (He.ga X.K (T.CN.getD k Str.empty)) dx qs) := h1
        rw [cls_of O e2] at h1
        obtain ⟨f1, f2⟩ := fld_of O hf
        split at q1
        · rename_i w ew
          obtain ⟨v', lv, rr⟩ := lk_fld (fnd_of O) f2 h2 h3 h4 ew
          rw [f1] at lv
          refine getattr_ok I1 h1 (O.pg.cls cx (List.mem_of_getElem? e2)).2.cl (O.pg.noat _ e4) lv fun u' s2 I2 ru => ?_
          obtain ⟨m2, L2', w', x2, S2, r2, q2⟩ := run_val q1 S1 rr
          refine thn (hx.run pins s2 σ H1 _ I2 ⟨m2, ρ, L2', S2, F1.mono x2, wpS_sx (R' := RelW X.K) (F1.mono x2) q2⟩) fun w3 s3 ⟨y3, H3, I3, r3, m3, L3, w3', x3, S3, r3', q3⟩ => ?_
          refine thn (pip_ok (T := T) op (ofW W) pins s3 σ H3 v' y3 u' w3 _ I3 ru r3 ⟨σ, m3, L3, w', w3', S3, r2.mono x3, r3', wpS_sx (R' := RelW X.K) ((F1.mono x2).mono x3) q3⟩) fun w4 s4 ⟨z4, H4, I4, r4, m4, L4, w4', x4, S4, r4', q4⟩ => ?_
          have F4 := ((F1.mono x2).mono x3).mono x4
          have q5 := wpS_sx (R' := RU) F4 q4
          have x24 := (x2.trans x3).trans x4
          refine setf_ok (R := fun m H (a b : Fr) => a = b) (k := fun _ => ret ρ) O I4 S4 hf ((RelW.ref hl).mono x24) rfl r4' r4 (Q := fun (_ : Fr) H5 => ∀ s5, L2.Inv X pins σ H5 s5 → SP X pins D .next s5) (Xw := ofW W) (σ := σ) ?_ fun H' L' s' ex S' I' q6 => q6 m4 H' ρ (Ext.refl _ _) S' rfl s' I'
          unfold run at q5 ⊢
          rw [wp_bnd]
          refine wp_mono q5 (fun _ L5 z => ?_) fun _ _ z => z
          intro m' H' b e' s' _ s5 I5
          obtain ⟨m6, L6, _, x6, S6, _, q6⟩ := z m' H' () e' s' trivial
          exact ⟨σ, H', I5, wpS_nx S6 (F4.mono x6) q6⟩
        · exact q1.elim
      · exact q1.elim
    · exact q1.elim
theorem wpS_disp {D : Ends} {m : List Addr} {H : Hp} {L : Hh} {ρ : Fr} {ts : List Tgt} {xs : List Ex} (q : wpS T W X D m H (exS C (.asg (.tup ts) (.tup xs)) ρ) L) :
    wpS T W X D m H (sx ρ (evEs C ρ xs) fun ws => if lenOk ws.length = true then sx ρ (asgTs C ts ws ρ) fun ρ1 => ret (.nx, ρ1) else fail) L := by
  have q : wp (sx ρ (evE C ρ (.tup xs)) fun w => sx ρ (asgT C (.tup ts) w ρ) fun ρ1 => ret (.nx, ρ1)) L (PostS T W X D m H) fun _ _ => True := q
  unfold wpS
  rw [wp_sx] at q ⊢
  have q : wp (bnd (evEs C ρ xs) fun ws => if lenOk ws.length then ret (Dx.W.tup ws) else fail) L _ _ := q
  rw [wp_bnd] at q
  refine wp_mono q (fun ws L1 z => ?_) fun _ _ z => z
  by_cases c1 : lenOk ws.length = true
  · rw [if_pos c1] at z ⊢
    exact z
  · rw [if_neg c1] at z
    exact False.elim z
theorem par_ok (O : Ok T p C c X d) {t : Tgt} {x : Ex} {tg e : Expr} {pos : Pos} (h : parB p c t x tg e = true) (ha : ∀ (xs : List Ex) (es : List Expr), chkEs p c xs es = true → PA X es (tA T C W X xs)) : PS X (.Assign [tg] e pos) (tS T W X fun ρ => exS C (.asg t x) ρ) := by
  unfold parB at h
  split at h <;> try cases h
  rename_i i j a b y py z pz _ _ ea eb _ _
  simp only [Bool.and_eq_true, decide_eq_true_eq, Bool.not_eq_true', isLoc] at h
  obtain ⟨⟨⟨⟨⟨⟨⟨⟨⟨⟨⟨h1, h2⟩, h3⟩, h4⟩, h5⟩, h6⟩, h7⟩, h8⟩, h9⟩, h10⟩, h11⟩, h12⟩ := h
  have hk : X.env.scope.kind = .function := by
    rw [O.sc]
    unfold fnKind at h8
    split at h8
    · assumption
    · cases h8
  have l1 : X.env.scope.names.lookup y = some .local := by rw [O.sc]; exact h5
  have l2 : X.env.scope.names.lookup z = some .local := by rw [O.sc]; exact h6
  refine PS_imp (ps_par O.calm (by rw [O.N]; exact O.nd) (by rw [O.N]; exact h3) (by rw [O.N]; exact h4) h1 l1 l2 (ha _ _ h12) (par_st l1 l2 h7 h2 hk h9 h10 h11)) fun D σ H q => ?_
  obtain ⟨m, ρ, L, S, F, q⟩ := q
  refine ⟨m, ρ, L, S, F, (wpS_sx (R' := RelWs X.K) F (wpS_disp q)).imp fun vs H1 ⟨m1, L1, ws, e1, S1, r1, q1⟩ => ?_⟩
  by_cases c1 : lenOk ws.length = true
  · rw [if_pos c1] at q1
    rcases ws with _ | ⟨w1, _ | ⟨w2, _ | ⟨w3, ws⟩⟩⟩
    · exact False.elim q1
    · exact False.elim q1
    · cases r1 with
      | cons r1 r2 =>
        cases r2 with
        | cons r2 r3 =>
          cases r3
          exact ⟨_, _, rfl, wpS_nx S1 (((F.mono e1).set r1).set r2) q1⟩
    · exact False.elim q1
  · rw [if_neg c1] at q1
    exact False.elim q1
theorem par3_ok (O : Ok T p C c X d) {t : Tgt} {x : Ex} {tg e : Expr} {pos : Pos} (h : par3B p c t x tg e = true) (ha : ∀ (xs : List Ex) (es : List Expr), chkEs p c xs es = true → PA X es (tA T C W X xs)) : PS X (.Assign [tg] e pos) (tS T W X fun ρ => exS C (.asg t x) ρ) := by
  unfold par3B at h
  split at h <;> try cases h
  rename_i i j k a b d0 y py z pz u pu _ _ ea eb ed _ _
  simp only [Bool.and_eq_true, decide_eq_true_eq, Bool.not_eq_true', isLoc] at h
  obtain ⟨⟨⟨⟨⟨⟨⟨⟨⟨⟨⟨⟨⟨⟨⟨⟨⟨⟨h1, h2⟩, h3⟩, h4⟩, h5⟩, h6⟩, h7⟩, h8⟩, h9⟩, h10⟩, h11⟩, h12⟩, h13⟩, h14⟩, h15⟩, h16⟩, h17⟩, h18⟩, h19⟩ := h
  have hk : X.env.scope.kind = .function := by
    rw [O.sc]
    unfold fnKind at h15
    split at h15
    · assumption
    · cases h15
  have l1 : X.env.scope.names.lookup y = some .local := by rw [O.sc]; exact h10
  have l2 : X.env.scope.names.lookup z = some .local := by rw [O.sc]; exact h11
  have l3 : X.env.scope.names.lookup u = some .local := by rw [O.sc]; exact h12
  refine PS_imp (ps_par3 O.calm (by rw [O.N]; exact O.nd) (by rw [O.N]; exact h7) (by rw [O.N]; exact h8) (by rw [O.N]; exact h9) h1 h2 h3 l1 l2 l3 (ha _ _ h19) (par3_st l1 l2 l3 h13 h14 h4 h5 h6 hk h16 h17 h18)) fun D σ H q => ?_
  obtain ⟨m, ρ, L, S, F, q⟩ := q
  refine ⟨m, ρ, L, S, F, (wpS_sx (R' := RelWs X.K) F (wpS_disp q)).imp fun vs H1 ⟨m1, L1, ws, e1, S1, r1, q1⟩ => ?_⟩
  by_cases c1 : lenOk ws.length = true
  · rw [if_pos c1] at q1
    rcases ws with _ | ⟨w1, _ | ⟨w2, _ | ⟨w3, _ | ⟨w4, ws⟩⟩⟩⟩
    · exact False.elim q1
    · exact False.elim q1
    · exact False.elim q1
    · cases r1 with
      | cons r1 r2 =>
        cases r2 with
        | cons r2 r3 =>
          cases r3 with
          | cons r3 r4 =>
            cases r4
            exact ⟨_, _, _, rfl, wpS_nx S1 ((((F.mono e1).set r1).set r2).set r3) q1⟩
    · exact False.elim q1
  · rw [if_neg c1] at q1
    exact False.elim q1
end
mutual
theorem sndS {T : Tab} {p : Pg} {C : Env} {c : Dc} {X : Cx} {d : Nat} {W : WX} (O : Ok T p C c X d) (tk : Takes X W) (hp : PassesOwn (model X.prog X.w) X.A X.env X.xe) : ∀ (x : Sm) (s : Stmt), chkS p c x s = true → PS X s (tS T W X fun ρ => exS C x ρ)
  | .asg t x, s, h => by
    simp only [chkS] at h
    split at h <;> try cases h
    rw [Bool.or_eq_true, Bool.or_eq_true] at h
    rcases h with (h | h) | h
    · simp only [Bool.and_eq_true, Bool.or_eq_true] at h
      obtain ⟨⟨⟨h1, h2⟩, h3⟩, h4⟩ := h
      have h5 : ∀ tg e, (noSwap tg e = true ∨ noSw2 c.sc tg e = true) → swappedStores [tg] e X.env = pure none := fun tg e h3 => by
        rcases h3 with h3 | h3
        · exact noSwap_st h3 _
        · exact noSw2_st (by rw [O.sc]; exact h3)
      rcases h4 with (h4 | h4) | h4
      · exact PS_imp (ps_asg (sndE O tk x _ h1) (sndG O tk t _ h2) (noComp_sw h4 _ _ _) (h5 _ _ h3) (asg1 h2 _)) fun D σ H q => tS_asg q
      · exact PS_imp (ps_asg (sndE O tk x _ h1) (sndG O tk t _ h2) (notName_sw h4 _ _) (h5 _ _ h3) (asg1 h2 _)) fun D σ H q => tS_asg q
      · split at h4
        · exact ps_lc O tk h1 h2 h4
        · cases h4
    · exact par_ok O h fun xs es hx => sndEs O tk xs es hx
    · exact par3_ok O h fun xs es hx => sndEs O tk xs es hx
  | .aug i op x, s, h => by
    simp only [chkS] at h
    split at h <;> try cases h
    simp only [Bool.and_eq_true, decide_eq_true_eq] at h
    obtain ⟨⟨⟨⟨h1, h2⟩, h3⟩, h4⟩, h5⟩ := h
    subst h1
    refine PS_imp (ps_aug (i := i) (by rw [O.N]; exact O.nd) (by rw [O.N]; exact h2) (O.loc h3) (sndE O tk x _ h5) (pip_ok (T := T) op (ofW W)) (O.fnl (List.contains_iff_mem.mp h4) h3)) fun D σ H ⟨m, ρ, L, S, F, q⟩ => ?_
    have q : wpS T W X D m H (match ρ[i]? with
      | some (some v) => sx ρ (evE C ρ x) fun w => sx ρ (iop op v w) fun z => ret (.nx, ρ.set i (some z))
      | _ => fail) L := q
    split at q
    · rename_i w e
      obtain ⟨v, e1, r⟩ := F.at_ i w e
      refine ⟨v, e1, m, ρ, L, S, F, (wpS_sx (R' := RelW X.K) F q).imp fun y H1 ⟨m1, L1, w2, e2, S1, r1, q1⟩ => ⟨σ, m1, L1, w, w2, S1, r.mono e2, r1, ?_⟩⟩
      exact (wpS_sx (R' := RelW X.K) (F.mono e2) q1).imp fun z H2 ⟨m2, L2, w3, e3, S2, r2, q2⟩ => wpS_nx S2 (((F.mono e2).mono e3).set r2) q2
    · exact False.elim q
  | .augf o f op x, s, h => by
    simp only [chkS] at h
    split at h <;> try cases h
    simp only [Bool.and_eq_true, decide_eq_true_eq] at h
    obtain ⟨⟨⟨⟨h1, h2⟩, h3⟩, h4⟩, h5⟩ := h
    subst h1
    exact ps_augfx O h3 (sndE O tk o _ h4) (sndE O tk x _ h5)
  | .nev, s, h => ⟨fun pins st σ H D I ⟨m, ρ, L, S, F, q⟩ => False.elim q⟩
  | .rse _ _, s, h => by simp [chkS] at h
  | .exp x, s, h => by
    simp only [chkS] at h
    split at h <;> try cases h
    simp only [Bool.and_eq_true] at h
    exact PS_imp (ps_expr (sndE O tk x _ h.1) (noComp_sw h.2 _ _ _)) fun D σ H q => (tS_sx (R' := RelW X.K) q).imp fun v H1 ⟨m1, ρ, L1, w, S1, F1, r1, q1⟩ => wpS_nx S1 F1 q1
  | .ifs t a b, s, h => by
    simp only [chkS] at h
    split at h <;> try cases h
    simp only [Bool.and_eq_true] at h
    refine PS_imp (ps_if (sndT O tk t _ h.1.1) (sndSs O tk hp a _ h.1.2) (sndSs O tk hp b _ h.2)) fun D σ H q => ?_
    refine (tS_sx (R' := RB) q).imp fun v H1 ⟨m1, ρ, L1, x, S1, F1, r1, q1⟩ => ?_
    have r1 : x = v := r1
    subst r1
    cases x
    · rw [if_neg (by simp)] at q1 ⊢; exact ⟨m1, ρ, L1, S1, F1, q1⟩
    · rw [if_pos rfl] at q1 ⊢; exact ⟨m1, ρ, L1, S1, F1, q1⟩
  | .whl t b, s, h => by
    simp only [chkS] at h
    split at h <;> try cases h
    simp only [Bool.and_eq_true] at h
    exact ps_wh hp (sndT O tk t _ h.1) (sndSs O tk hp b _ h.2)
  | .fors t it b, s, h => by
    simp only [chkS] at h
    split at h <;> try cases h
    simp only [Bool.and_eq_true] at h
    exact ps_fr hp O.calm (sndI O tk it _ _ h.1.1) (sndG O tk t _ h.1.2) (sndSs O tk hp b _ h.2) (noSet h.1.1 X.env)
  | .rtn x, s, h => by
    simp only [chkS] at h
    split at h <;> try cases h
    exact PS_imp (ps_ret (sndE O tk x _ h)) fun D σ H q => (tS_sx (R' := RelW X.K) q).imp fun v H1 ⟨m1, ρ, L1, w, S1, F1, r1, q1⟩ => q1 m1 H1 (Ext.refl _ _) S1 v r1
  | .rtnN, s, h => by
    simp only [chkS] at h
    split at h <;> try cases h
    exact PS_imp ps_retN fun D σ H ⟨m, ρ, L, S, F, q⟩ => q m H (Ext.refl _ _) S _ .non
  | .pas, s, h => by
    simp only [chkS] at h
    split at h <;> try cases h
    exact PS_imp ps_pass fun D σ H ⟨m, ρ, L, S, F, q⟩ => wpS_nx S F q
  | .brk, s, h => by
    simp only [chkS] at h
    split at h <;> try cases h
    exact PS_imp ps_break fun D σ H ⟨m, ρ, L, S, F, q⟩ => q m H (Ext.refl _ _) S σ F
  | .cnt, s, h => by
    simp only [chkS] at h
    split at h <;> try cases h
    exact PS_imp ps_continue fun D σ H ⟨m, ρ, L, S, F, q⟩ => q m H (Ext.refl _ _) S σ F
theorem sndSs {T : Tab} {p : Pg} {C : Env} {c : Dc} {X : Cx} {d : Nat} {W : WX} (O : Ok T p C c X d) (tk : Takes X W) (hp : PassesOwn (model X.prog X.w) X.A X.env X.xe) : ∀ (xs : List Sm) (ss : List Stmt), chkSs p c xs ss = true → PSs X ss (tS T W X fun ρ => exSs C xs ρ)
  | [], ss, h => by
    cases ss with
    | cons _ _ => simp [chkSs] at h
    | nil => exact PSs_imp pss_nil fun D σ H ⟨m, ρ, L, S, F, q⟩ => wpS_nx S F q
  | x :: xs, ss, h => by
    cases ss with
    | nil => simp [chkSs] at h
    | cons s ss =>
      simp only [chkSs, Bool.and_eq_true] at h
      refine PSs_imp (pss_cons (sndS O tk hp x s h.1) (sndSs O tk hp xs ss h.2)) fun D σ H ⟨m, ρ, L, S, F, q⟩ => ⟨m, ρ, L, S, F, ?_⟩
      refine wp_mono (wpS_bnd q) (fun r L1 z => ?_) fun _ _ z => z
      obtain ⟨f, ρ1⟩ := r
      cases f with
      | nx => exact fun m' H' e S' σ' F' => ⟨m', ρ1, L1, S', F', wpS.mono e z⟩
      | rt w => exact fun m' H' e S' v r => z m' H' e S' v r
      | bk => exact fun m' H' e S' σ' F' => z m' H' e S' σ' F'
      | ct => exact fun m' H' e S' σ' F' => z m' H' e S' σ' F'
      | ex e0 => exact fun m' H' e S' σ' cls dd F' r => z m' H' e S' σ' cls dd F' r
end
end Dx

set_option maxRecDepth 100000
set_option maxHeartbeats 4000000
/-! Dx8: defs. -/
namespace Dx
open PySem PySem.Spec PyProof.Rows L2

/-- a bound argument: one that is written, a default -/
inductive Arg where | ix (i : Nat) | c (w : W)
def arrW (as : List W) : List Arg → List W
  | [] => []
  | .ix i :: r => (as[i]?.getD .non) :: arrW as r
  | .c w :: r => w :: arrW as r
/-- the small program -/
structure Tm where
  defs : List Df
  tgs : List (Nat × List Arg)
  cfL : List (Nat × Nat) := []
  mtL : List (Nat × Nat × Nat) := []
  ptL : List (Nat × Nat × Nat) := []
  mkL : List (Nat × Nat × Nat) := []
  subL : List (Nat × Nat) := []
  tags : List Txt := []
def envT (P : Tm) (call callM : Nat → List W → M W) : Env where
  call := call
  callM := callM
  cf := fun c f => P.cfL.contains (c, f)
  mt := fun c m => (P.mtL.find? fun q => q.1 == c && q.2.1 == m).map (·.2.2)
  pt := fun c m => (P.ptL.find? fun q => q.1 == c && q.2.1 == m).map (·.2.2)
  mks := fun k => (P.mkL.find? fun q => q.1 == k).map (·.2)
  sub := fun a b => a == b || P.subL.contains (a, b)
  tag := fun c => P.tags.getD c []
def envD (P : Tm) : Nat → Env
  | 0 => envT P (fun _ _ => fail) fun _ _ => fail
  | d + 1 => envT P (fun t as => match P.tgs[t]? with
      | some (k, arr) => (match P.defs[k]? with
        | some f => runD (envD P d) f (arrW as arr)
        | none => fail)
      | none => fail) (envD P d).call
theorem envD_callM {P : Tm} {d : Nat} : (envD P (d + 1)).callM = (envD P d).call := rfl
theorem envD_call {P : Tm} {d t k : Nat} {arr : List Arg} {f : Df} (h1 : P.tgs[t]? = some (k, arr)) (h2 : P.defs[k]? = some f) (as : List W) : (envD P (d + 1)).call t as = runD (envD P d) f (arrW as arr) := by
  show (match P.tgs[t]? with
      | some (k, arr) => (match P.defs[k]? with
        | some f => runD (envD P d) f (arrW as arr)
        | none => fail)
      | none => fail) = _
  rw [h1]
  show (match P.defs[k]? with
        | some f => runD (envD P d) f (arrW as arr)
        | none => fail) = _
  rw [h2]
/-- the small program's tables fit -/
def tmB (p : Pg) (P : Tm) : Bool :=
  (P.cfL.all fun q => match p.cls[q.1]?, p.fld[q.2]? with
    | some x, some y => p.noatL.contains (x, y)
    | _, _ => false) &&
  ((P.mtL.all fun q => match p.cls[q.1]?, p.mf[q.2.1]?, p.tg[q.2.2]? with
    | some x, some (nm, np, kws), some g => decide (g.at_ = .meth x nm) && decide (g.npos = np + 1) && decide (g.kws = kws) && p.methL.contains (x, nm) && !p.fld.contains nm
    | _, _, _ => false) &&
  ((P.ptL.all fun q => match p.cls[q.1]?, p.pf[q.2.1]?, p.tg[q.2.2]? with
    | some x, some nm, some g => decide (g.at_ = .get x nm) && decide (g.npos = 1) && decide (g.kws = []) && p.propL.contains (x, nm)
    | _, _, _ => false) &&
  ((P.mkL.all fun q => match p.cls[q.2.1]?, p.mkf[q.1]?, p.tg[q.2.2]? with
    | some x, some (y, np, kws), some g => decide (x = y) && decide (g.at_ = .meth x "__init__") && decide (g.npos = np + 1) && decide (g.kws = kws) && p.mkrL.contains x
    | _, _, _ => false) && (decide (P.subL = p.subL) && decide p.fld.Nodup))))
theorem cfOk_of {p : Pg} {P : Tm} (h : tmB p P = true) (call callM : Nat → List W → M W) : CfOk p (envT P call callM) := by
  simp only [tmB, Bool.and_eq_true, List.all_eq_true, decide_eq_true_eq] at h
  obtain ⟨h1, h2, h3, h4, h5, h6⟩ := h
  refine ⟨fun c f e => ?_, fun c m t e => ?_, fun c m t e => ?_, fun k c t e => ?_, fun _ _ => rfl, ?_, h6⟩
  · have hm : (c, f) ∈ P.cfL := List.contains_iff_mem.mp e
    have z := h1 _ hm
    split at z
    · rename_i x y e1 e2
      exact ⟨x, y, e1, e2, List.contains_iff_mem.mp z⟩
    · cases z
  · have e : (P.mtL.find? fun q => q.1 == c && q.2.1 == m).map (·.2.2) = some t := e
    obtain ⟨q, e1, e2⟩ := Option.map_eq_some_iff.mp e
    have hm := List.mem_of_find?_eq_some e1
    have hp := List.find?_some e1
    simp only [Bool.and_eq_true, beq_iff_eq] at hp
    obtain ⟨qc, qm, qt⟩ := q
    obtain ⟨rfl, rfl⟩ := hp
    subst e2
    have z := h2 _ hm
    split at z
    · rename_i x nm np kws g e1 e2 e3
      simp only [Bool.and_eq_true, decide_eq_true_eq, Bool.not_eq_true'] at z
      obtain ⟨⟨⟨⟨z1, z2⟩, z3⟩, z4⟩, z5⟩ := z
      refine ⟨x, nm, np, kws, g, e1, e2, e3, z1, z2, z3, List.contains_iff_mem.mp z4, fun q => ?_⟩
      rw [List.contains_iff_mem.mpr q] at z5
      cases z5
    · cases z
  · have e : (P.ptL.find? fun q => q.1 == c && q.2.1 == m).map (·.2.2) = some t := e
    obtain ⟨q, e1, e2⟩ := Option.map_eq_some_iff.mp e
    have hm := List.mem_of_find?_eq_some e1
    have hp := List.find?_some e1
    simp only [Bool.and_eq_true, beq_iff_eq] at hp
    obtain ⟨qc, qm, qt⟩ := q
    obtain ⟨rfl, rfl⟩ := hp
    subst e2
    have z := h3 _ hm
    split at z
    · rename_i x nm g e1 e2 e3
      simp only [Bool.and_eq_true, decide_eq_true_eq] at z
      obtain ⟨⟨⟨z1, z2⟩, z3⟩, z4⟩ := z
      exact ⟨x, nm, g, e1, e2, e3, z1, z2, z3, List.contains_iff_mem.mp z4⟩
    · cases z
  · have e : (P.mkL.find? fun q => q.1 == k).map (·.2) = some (c, t) := e
    obtain ⟨q, e1, e2⟩ := Option.map_eq_some_iff.mp e
    have hm := List.mem_of_find?_eq_some e1
    have hp := List.find?_some e1
    simp only [beq_iff_eq] at hp
    obtain ⟨qk, qc, qt⟩ := q
    cases hp
    cases e2
    have z := h4 _ hm
    split at z
    · rename_i x y np kws g e1 e2 e3
      simp only [Bool.and_eq_true, decide_eq_true_eq] at z
      obtain ⟨⟨⟨⟨z1, z2⟩, z3⟩, z4⟩, z5⟩ := z
      subst z1
      exact ⟨x, np, kws, g, e1, e2, e3, z2, z3, z4, List.contains_iff_mem.mp z5⟩
    · cases z
  · funext a b
    show (a == b || P.subL.contains (a, b)) = (a == b || p.subL.contains (a, b))
    rw [h5]
theorem cfOk_env {p : Pg} {P : Tm} (h : tmB p P = true) : ∀ d, CfOk p (envD P d)
  | 0 => cfOk_of h _ _
  | _ + 1 => cfOk_of h _ _
/-- how a call's written arguments are bound -/
def BindK (K : PySem.W.Frag) (fd : FuncData) (ps : List Str) (npos : Nat) (kws : List Str) (arr : List Arg) : Prop :=
  ∀ (us ws : List Value) (vs zs : List V), us.length = npos → ws.length = kws.length → Vals vs us → Vals zs ws → ∃ (full : List Value) (fullV : List V), Vals fullV full ∧ full.length = ps.length ∧
    (∀ s : Shared, K.In s.heap → BindsTo s fd ⟨us, kws.zip ws⟩ (ps.zip full)) ∧ ∀ (m : List Addr) (H : Hp) (as : List W), RelWs K m H as (vs ++ zs) → RelWs K m H (arrW as arr) fullV
section
variable {K : PySem.W.Frag} {x qual : Str} {params : Arguments} {body : List Stmt} {scope : Scope} {f : Addr} {fd : FuncData} {ps : List Str} {npos : Nat} {kws : List Str}
theorem RelWs.ixs {m : List Addr} {H : Hp} {as : List W} {vs : List V} (r : RelWs K m H as vs) : ∀ ixs : List Nat, (∀ i ∈ ixs, i < vs.length) → RelWs K m H (arrW as (ixs.map .ix)) (ixs.map fun i => vs[i]?.getD .non)
  | [], _ => .nil
  | i :: ixs, h => by
    have hi := h i (by simp)
    have hi2 : i < as.length := by rw [r.length]; exact hi
    obtain ⟨v, e1, r1⟩ := r.get (List.getElem?_eq_getElem hi2)
    refine .cons ?_ (RelWs.ixs r ixs fun j hj => h j (by simp [hj]))
    show RelW K m H (as[i]?.getD W.non) (vs[i]?.getD V.non)
    rw [e1, List.getElem?_eq_getElem hi2]
    exact r1
theorem vals_ixs {vs : List V} {us : List Value} (r : Vals vs us) : ∀ ixs : List Nat, (∀ i ∈ ixs, i < vs.length) → Vals (ixs.map fun i => vs[i]?.getD .non) (ixs.map fun i => us[i]?.getD .none)
  | [], _ => .nil
  | i :: ixs, h => by
    have hi := h i (by simp)
    obtain ⟨u, e1, r1⟩ := r.get (List.getElem?_eq_getElem hi)
    refine .cons ?_ (vals_ixs r ixs fun j hj => h j (by simp [hj]))
    show L2.RelV (vs[i]?.getD V.non) (us[i]?.getD Value.none)
    rw [e1, List.getElem?_eq_getElem hi]
    exact r1
/-- no defaults: every parameter is written -/
theorem bindK_pure (F : FunD K x qual params body scope [] [] f fd) (ixs : List Nat) (hix : (ixs.all fun i => decide (i < npos + kws.length)) = true) (hl : ixs.length = ps.length)
    (h : ∀ (kV doc pm : Value) (an : Option Addr) (cdv ct : Value) (us ws : List Value), us.length = npos → ws.length = kws.length → bindArgs (PySem.W.fnOf x qual params body scope .none kV doc pm an cdv ct) ⟨us, kws.zip ws⟩ = pure (ps.zip (ixs.map fun i => (us ++ ws)[i]?.getD .none))) :
    BindK K fd ps npos kws (ixs.map .ix) := by
  intro us ws vs zs l1 l2 r1 r2
  obtain ⟨oc, od, dV, kV, doc, pm, an, cdv, ct, osl, rfl, lk, hcd, hD, hK⟩ := F.ex
  have hv : ∀ i ∈ ixs, i < (vs ++ zs).length := fun i hi => by
    have := of_decide_eq_true (List.all_eq_true.mp hix i hi)
    rw [List.length_append, r1.length, r2.length, l1, l2]
    exact this
  rcases hD with ⟨_, rfl⟩ | ⟨e, _⟩
  · exact ⟨_, _, vals_ixs (r1.append r2) ixs hv, by rw [List.length_map, hl], fun s _ => .of_eq (h kV doc pm an cdv ct us ws l1 l2), fun m H as r => r.ixs ixs hv⟩
  · exact absurd rfl e
end
/-- a def that the small program has -/
structure DefOk (T : Tab) (p : Pg) (P : Tm) (K : PySem.W.Frag) (t : Nat) (g : Tg) (f : Addr) : Prop where
  ex : ∃ (k : Nat) (arr : List Arg) (df : Df) (x qual : Str) (params : Arguments) (body : List Stmt) (scope : Scope) (dvs : List V) (kws : List (Str × V)) (fd : FuncData) (N ps : List Str),
    P.tgs[t]? = some (k, arr) ∧ P.defs[k]? = some df ∧ FunD K x qual params body scope dvs kws f fd ∧ FnScope N ps scope ∧ chkSs p ⟨N, scope, N⟩ df.body body = true ∧ df.slots = N.length ∧ BindK K fd ps g.npos g.kws arr
section
variable {T : Tab} {p : Pg} {Tp : Tm} {P : Program} {w : World} {K : PySem.W.Frag} {mg : Str → Option Value} {base : Heap}
theorem relF_start {m : List Addr} {H : Hp} {as : List W} {vs : List V} {N : List Str} {n : Nat} (r : RelWs K m H as vs) (hn : n = N.length) (hl : vs.length ≤ N.length) : RelF K m H (as.map some ++ List.replicate (n - as.length) none) (L2.start N vs) := by
  subst hn
  have e := r.length
  unfold L2.start
  refine ⟨by simp [e], fun i w h => ?_⟩
  by_cases hi : i < as.length
  · rw [List.getElem?_append_left (by simpa using hi), List.getElem?_map] at h
    rw [List.getElem?_append_left (by simpa [← e] using hi), List.getElem?_map]
    cases e2 : as[i]? with
    | none => rw [e2] at h; cases h
    | some a =>
      rw [e2] at h
      cases h
      obtain ⟨v, e3, r3⟩ := r.get e2
      exact ⟨v, by rw [e3]; rfl, r3⟩
  · rw [List.getElem?_append_right (by simpa using hi), List.getElem?_replicate] at h
    split at h <;> cases h
theorem runD_ok {C : Env} {df : Df} {as : List W} {g : G} {Xw : XW} {σ : L2.St} {m : List Addr} {H : Hp} {L : Hh} {Q : VK} (h : run g Xw σ (RelW g.K) (runD C df as) m H L Q) :
    as.length ≤ df.slots ∧ run g Xw σ (RelW g.K) (bnd (exSs C df.body (as.map some ++ List.replicate (df.slots - as.length) none)) endOf) m H L Q := by
  rcases run_if h with ⟨c, h⟩ | ⟨_, h⟩
  · exact ⟨of_decide_eq_true c, h⟩
  · exact h.elim
theorem body_ok {C : Env} {X : Cx} {c : List Sm} {ρ : Fr} {σ : L2.St} {m : List Addr} {H : Hp} {L : Hh} {Q : VK} {E : XK} (h : run (T.g X) (fun _ _ cls d H' => E cls d H') σ (RelW X.K) (bnd (exSs C c ρ) endOf) m H L Q) :
    wpS T (fun cls d _ H => E cls d H) X { nx := fun _ H' => Q .non H', rt := Q } m H (exSs C c ρ) L := by
  unfold run at h
  rw [wp_bnd] at h
  refine wp_mono h (fun r L1 q => ?_) fun _ _ _ => trivial
  obtain ⟨f, ρ1⟩ := r
  cases f with
  | nx => exact fun m' H' e S σ' F => q m' H' _ e S .non
  | rt w => exact fun m' H' e S v r => q m' H' v e S r
  | bk => exact False.elim q
  | ct => exact False.elim q
  | ex x => exact fun m' H' e S σ' cls d F r => q m' H' cls d e S r
/-- what a def promises: what the small one does -/
def spD (T : Tab) (P : Program) (w : World) (K : PySem.W.Frag) (mg : Str → Option Value) (base : Heap) (C : Env) (df : Df) (n : Nat) : Sp := fun vs H Q E => vs.length = n ∧ ∃ m L as σ, Sim ⟨P, w, K, mg, base, T.CN, T.FN, T.rx⟩ m L H ∧ RelWs K m H as vs ∧
  run ⟨P, w, K, mg, base, T.CN, T.FN, T.rx⟩ (fun _ _ cls d H' => E cls d H') σ (RelW K) (runD C df as) m H L Q
theorem fnok_step {d : Nat} {f : Addr} {df : Df} {x qual : Str} {params : Arguments} {body : List Stmt} {scope : Scope} {dvs : List V} {kws : List (Str × V)} {fd : FuncData} {N ps : List Str} (hp : PgOk p K w mg) (F : FunD K x qual params body scope dvs kws f fd) (FS : FnScope N ps scope) (hc : chkSs p ⟨N, scope, N⟩ df.body body = true) (hs : df.slots = N.length)
    (tmb : tmB p Tp = true ∧ T.CN = p.cls ∧ T.FN = p.fld) (ih : ∀ t g, p.tg[t]? = some g → PySem.W.keepIn K (.ref (g.at_.ad K)) = true ∧ (∀ y, g.at_ = .glo y → mg y = some (.ref (g.at_.ad K))) ∧ CallableP T (envD Tp d) P w K mg base d t (g.at_.ad K) g.npos g.kws ∧ CallableQ T ((envD Tp d).callM t) P w K mg base d (g.at_.ad K) g.npos g.kws) :
    FnOk P w K mg base (L2.CX P w) (d + 2) f fd ps (spD T P w K mg base (envD Tp d) df ps.length) := by
  refine F.ok FS (fun vs H Q E h => h.1) fun cdv A outer s H vs Q E hr ⟨hl, m, L, as, σ, S, ra, q⟩ => ?_
  obtain ⟨q1, q2⟩ := runD_ok q
  have O : Ok T p (envD Tp d) ⟨N, scope, N⟩ (cxOf (L2.CX P w) P w K mg base N qual scope f cdv A outer s H E) d := ⟨rfl, rfl, FS.nd, rfl, hr, hp, fun _ _ _ => .inl rfl, fun t g h => ⟨(ih t g h).1, (ih t g h).2.1, (ih t g h).2.2.1⟩, fun t g h => (ih t g h).2.2.2, cfOk_env tmb.1 d, tmb.2.1, tmb.2.2⟩
  refine ⟨tS T (fun cls d _ H => E cls d H) (cxOf (L2.CX P w) P w K mg base N qual scope f cdv A outer s H E) fun ρ => exSs (envD Tp d) df.body ρ, sndSs O (takes_of rfl rfl rfl rfl) (passes_of rfl) df.body body hc, m, _, L, S, relF_start (n := df.slots) ra hs ?_, body_ok q2⟩
  rw [hl]
  have := congrArg List.length FS.pre
  rw [List.length_take] at this
  omega
/-- THE STEP: a target at one depth more -/
theorem callable_step {d t : Nat} {g : Tg} {f : Addr} (hp : PgOk p K w mg) (D : DefOk T p Tp K t g f) (tmb : tmB p Tp = true ∧ T.CN = p.cls ∧ T.FN = p.fld) (ih : ∀ t g, p.tg[t]? = some g → PySem.W.keepIn K (.ref (g.at_.ad K)) = true ∧ (∀ y, g.at_ = .glo y → mg y = some (.ref (g.at_.ad K))) ∧ CallableP T (envD Tp d) P w K mg base d t (g.at_.ad K) g.npos g.kws ∧ CallableQ T ((envD Tp d).callM t) P w K mg base d (g.at_.ad K) g.npos g.kws) :
    CallableP T (envD Tp (d + 1)) P w K mg base (d + 1) t f g.npos g.kws := by
  intro A outer s H us ws vs zs Q E m L as σ hr e0 r1 r2 l1 l2 S ra q
  obtain ⟨k, arr, df, x, qual, params, body, scope, dvs, kws, fd, N, ps, h1, h2, F, FS, hc, hs, hb⟩ := D.ex
  rw [envD_call h1 h2] at q
  obtain ⟨full, fullV, rf, lf, bf, rw'⟩ := hb us ws vs zs l1 l2 r1 r2
  have kin : K.In s.heap := fun a o h => (e0.bs _ _ (e0.mod.kin a o h)).1
  exact (fnok_step hp F FS hc hs tmb ih).run A outer s H ⟨us, g.kws.zip ws⟩ full fullV Q E hr e0 (bf s kin) rf ⟨by rw [rf.length, lf], m, L, _, σ, S, rw' m H as ra, q⟩
theorem callable_all (hp : PgOk p K w mg) (tmb : tmB p Tp = true ∧ T.CN = p.cls ∧ T.FN = p.fld) (hD : ∀ t g, p.tg[t]? = some g → PySem.W.keepIn K (.ref (g.at_.ad K)) = true ∧ (∀ y, g.at_ = .glo y → mg y = some (.ref (g.at_.ad K))) ∧ DefOk T p Tp K t g (g.at_.ad K)) :
    ∀ d t g, p.tg[t]? = some g → PySem.W.keepIn K (.ref (g.at_.ad K)) = true ∧ (∀ y, g.at_ = .glo y → mg y = some (.ref (g.at_.ad K))) ∧ CallableP T (envD Tp d) P w K mg base d t (g.at_.ad K) g.npos g.kws ∧ CallableQ T ((envD Tp d).callM t) P w K mg base d (g.at_.ad K) g.npos g.kws
  | 0, t, g, h => by
    obtain ⟨h1, h2, h3⟩ := hD t g h
    exact ⟨h1, h2, fun A outer s H us ws vs zs Q E m L as σ hr e0 r1 r2 l1 l2 S ra q => False.elim q, fun A outer s H us ws vs zs Q E m L as σ hr e0 r1 r2 l1 l2 S ra q => False.elim q⟩
  | d + 1, t, g, h => by
    obtain ⟨h1, h2, h3⟩ := hD t g h
    exact ⟨h1, h2, callable_step hp h3 tmb (callable_all hp tmb hD d), (callable_all hp tmb hD d t g h).2.2.1⟩
end
end Dx

set_option maxRecDepth 100000
set_option maxHeartbeats 4000000
/-! Dx9: the head's facts; the law. -/
namespace Dx
open PySem PySem.Spec PyProof.Rows L2
def txS (t : Txt) : Str := ⟨t.toArray⟩
def dvOf : W → He.Dv
  | .int i => .int i
  | .str t => .str (txS t)
  | _ => .non
def flKV : W → Bool
  | .int _ => true
  | .str _ => true
  | _ => false
theorem flKV_ok {K : PySem.W.Frag} {v : W} (h : flKV v = true) : ∀ m H, RelW K m H v ((dvOf v).v K) := by
  match v, h with
  | .int i, _ => exact fun m H => .int i
  | .str t, _ => exact fun m H => .str t
def clsXB (K : PySem.W.Frag) (C : Addr) : Bool := He.eqO (PySem.W.findIn K (.ref C) "__class__") (some (some (.builtin "object.__class__"))) && (He.eqO (PySem.W.specialIn K (.builtin "object.__class__") "__get__") (some (some (.builtin "getset_descriptor.__get__"))) && (decide (PySem.W.takesIn K (.builtin "object.__class__") = some true) && decide (PySem.W.mroIn K C (.type "object") = some true)))
def kitB (p : Pg) (K : PySem.W.Frag) : Bool := (List.range p.cls.length).all fun i => (List.range p.cls.length).all fun j => match p.cls[i]?, p.cls[j]? with
  | some x, some y => decide (PySem.W.kitOne K (.ref (He.ga K x)) (.ref (He.ga K y)) = some (p.sub i j))
  | _, _ => false
def propB (K : PySem.W.Frag) (C : Addr) (f : Str) : Bool := He.eqO (PySem.W.findIn K (.ref C) f) (some (some (.ref (prA K C f)))) && (He.eqO (PySem.W.specialIn K (.ref (prA K C f)) "__get__") (some (some (.builtin "property.__get__"))) && (decide (PySem.W.takesIn K (.ref (prA K C f)) = some true) && (match PySem.W.recIn K (prA K C f) "property" with
  | some (.ref g :: _) => true
  | _ => false)))
def Pg.ex (p : Pg) (K : PySem.W.Frag) : Bool := (p.cls.all fun x => clsXB K (He.ga K x)) && (kitB p K && ((p.cls.all fun y => nmAll.all fun a => decide (PySem.W.kitOne K (.type a) (.ref (He.ga K y)) = some false)) && ((p.propL.all fun q => propB K (He.ga K q.1) q.2) &&
  ((p.gd.all fun q => (q.2.all fun r => flKV r.2) && He.valsB K (He.ga K q.1) (q.2.map fun r => (txS r.1, dvOf r.2))) && (p.gt.all fun q => He.tupB K q.1 (q.2.map fun t => .str (txS t)))))))
def Pg.ts (p : Pg) : List He.Tab := p.gd.map fun q => (fun K => He.ga K q.1, q.2.map fun r => txS r.1)
def Pg.glos (p : Pg) : List Str := p.tg.filterMap (fun g => match g.at_ with
  | .glo x => some x
  | _ => none) ++ (p.cls ++ (p.gd.map (·.1) ++ p.gt.map (·.1)))
def Pg.fa (p : Pg) : List He.Fa := p.gi.map (fun q => .int q.1 q.2) ++ (p.gs.map (fun q => .str q.1 (txS q.2)) ++ (p.free.map .free ++ (p.glos.map .glo ++ (p.cls.map .cls ++ (p.noatL.map (fun q => .noat q.1 q.2) ++ (p.methL.map (fun q => .meth q.1 q.2) ++ p.mkrL.map .mkr))))))
section
variable {w : World} {K : PySem.W.Frag} {h : Heap} {mg : Str → Option Value} {p : Pg} {fn : List He.DefD} {ex : List He.Fa}
theorem find_none {P : Params} {x : Str} : ∀ {l : List DictEntry} {ks : List Str}, l.map He.keyOf = He.keysIn P ks → x ∉ ks → l.find? (·.key.isStr x) = none ∧ l.any (·.refKey) = false
  | [], _, _, _ => ⟨rfl, rfl⟩
  | e :: r, [], h, _ => by cases h
  | e :: r, k :: ks, h, hx => by
    have h1 : He.keyOf e :: r.map He.keyOf = some (k, PyData.keyHash P k) :: He.keysIn P ks := h
    injection h1 with h2 h3
    have ih := find_none h3 (fun z => hx (List.mem_cons_of_mem _ z))
    unfold He.keyOf at h2
    split at h2
    · rename_i y t q
      have h4 := Option.some.inj h2
      obtain ⟨h5, h6⟩ := Prod.mk.inj h4
      have hne : y ≠ x := fun z => hx (by rw [← z, h5]; exact List.mem_cons_self)
      refine ⟨?_, ?_⟩
      · rw [List.find?_cons_of_neg, ih.1]
        rw [q]
        intro z
        exact hne (by simpa [Value.isStr] using z)
      · rw [List.any_cons, ih.2, Bool.or_false]
        unfold DictEntry.refKey
        rw [q]
    · cases h2
theorem ns_none {a : Addr} {ks : List Str} {x : Str} (hd : He.dicW K a = some (He.keysIn w.params ks)) (hx : x ∉ ks) : PySem.W.nsIn K a x = some none := by
  unfold He.dicW at hd
  cases q : K.lookup a with
  | none => rw [q] at hd; cases hd
  | some o =>
    obtain ⟨oc, od, dt, osl⟩ := o
    rw [q] at hd
    cases oc with
    | type c =>
      cases od with
      | none =>
        cases dt with
        | dict es n =>
          have h1 : (match decide (c = "dict") && (osl.isEmpty && !(a == sysModules)) with
            | true => some (es.toList.map He.keyOf)
            | false => none) = some (He.keysIn w.params ks) := hd
          split at h1
          · have h2 := find_none (Option.some.inj h1) hx
            unfold PySem.W.nsIn
            rw [q]
            show (match es.toList.find? (·.key.isStr x) with
              | some e => some (some e.val)
              | none => if es.toList.any (·.refKey) then none else some none) = some none
            rw [h2.1, h2.2]
            rfl
          · cases h1
        | _ => cases hd
      | some b => cases dt <;> cases hd
    | _ => cases od <;> cases dt <;> cases hd
theorem tS_inj {a b : Txt} (h : txS a = txS b) : a = b := by
  have : (txS a).cps.toList = (txS b).cps.toList := by rw [h]
  simpa [txS] using this
theorem lookup_memW {t : Txt} {v : W} : ∀ {l : List (Txt × W)}, l.lookup t = some v → (t, v) ∈ l
  | [], h => by cases h
  | (b, u) :: r, h => by
    have h2 : (match t == b with | true => some u | false => r.lookup t) = some v := h
    cases q : (t == b) with
    | true =>
      rw [q] at h2
      have e : u = v := Option.some.inj h2
      rw [beq_iff_eq.mp q, e]
      exact List.mem_cons_self
    | false =>
      rw [q] at h2
      exact List.mem_cons_of_mem _ (lookup_memW h2)
theorem lookup_noW {t : Txt} : ∀ {l : List (Txt × W)}, l.lookup t = none → txS t ∉ l.map fun r => txS r.1
  | [], _ => by simp
  | (b, u) :: r, h => by
    have h2 : (match t == b with | true => some u | false => r.lookup t) = none := h
    cases q : (t == b) with
    | true => rw [q] at h2; cases h2
    | false =>
      rw [q] at h2
      rw [List.map_cons, List.mem_cons, not_or]
      exact ⟨fun z => by rw [tS_inj z] at q; simp at q, lookup_noW h2⟩
theorem gdOk_of {a : Addr} {kvs : List (Txt × W)} (hd : He.dicW K a = some (He.keysIn w.params (kvs.map fun r => txS r.1))) (hf : (kvs.all fun r => flKV r.2) = true) (hv : He.valsB K a (kvs.map fun r => (txS r.1, dvOf r.2)) = true) : gdOk K w a kvs := by
  obtain ⟨es, n, D⟩ := He.dicW_ok hd
  refine ⟨es, n, D, fun t => ?_⟩
  cases e : kvs.lookup t with
  | none => exact ns_none hd (lookup_noW e)
  | some v =>
    have hm := lookup_memW e
    obtain ⟨u, e1, r1⟩ := He.valsB_ok hv (List.mem_map.mpr ⟨(t, v), hm, rfl⟩)
    exact ⟨u, _, e1, r1, flKV_ok (List.all_eq_true.mp hf _ hm)⟩
theorem pgOk_of (X : K.In h) (G : h.Ns mainGlobals mg) (c : He.SaysT (p.fa ++ ex) fn p.ts w K) (ce : p.ex K = true) : PgOk p K w mg := by
  have cd := c.d
  simp only [Pg.ex, Bool.and_eq_true, List.all_eq_true] at ce
  obtain ⟨ce1, ce2, ce3, ce4, ce5, ce6⟩ := ce
  have hglo : ∀ x ∈ p.glos, mg x = some (.ref (He.ga K x)) := fun x hx => He.glo_ok X G (cd.facts (f := .glo x) (by simp only [Pg.fa, List.mem_append, List.mem_map]; exact .inl (.inr (.inr (.inr (.inl ⟨x, hx, rfl⟩))))))
  refine ⟨fun q hq => ?_, fun q hq => ?_, fun x hx => ?_, fun x hx => ⟨?_, ?_⟩, fun i j x y hi hj => ?_, fun y hy a ha => ?_, fun q hq => ?_, fun q hq => ?_, fun q hq => ?_, fun x hx => ?_, fun q hq => ?_, fun q hq => ?_⟩
  · exact He.int_ok X G (cd.facts (f := .int q.1 q.2) (by simp only [Pg.fa, List.mem_append, List.mem_map]; exact .inl (.inl ⟨q, hq, rfl⟩)))
  · exact He.str_ok X G (cd.facts (f := .str q.1 (txS q.2)) (by simp only [Pg.fa, List.mem_append, List.mem_map]; exact .inl (.inr (.inl ⟨q, hq, rfl⟩))))
  · exact He.free_ok X G (cd.facts (f := .free x) (by simp only [Pg.fa, List.mem_append, List.mem_map]; exact .inl (.inr (.inr (.inl ⟨x, hx, rfl⟩)))))
  · exact hglo x (by simp only [Pg.glos, List.mem_append]; exact .inr (.inl hx))
  · have z := ce1 x hx
    simp only [clsXB, Bool.and_eq_true, decide_eq_true_eq] at z
    obtain ⟨z1, z2, z3, z4⟩ := z
    exact ⟨He.cls_ok (cd.facts (f := .cls x) (by simp only [Pg.fa, List.mem_append, List.mem_map]; exact .inl (.inr (.inr (.inr (.inr (.inl ⟨x, hx, rfl⟩)))))) ), He.eqO_ok z1, He.eqO_ok z2, z3, z4⟩
  · have li : i < p.cls.length := (List.getElem?_eq_some_iff.mp hi).1
    have lj : j < p.cls.length := (List.getElem?_eq_some_iff.mp hj).1
    simp only [kitB, List.all_eq_true, List.mem_range] at ce2
    have z := ce2 i li j lj
    rw [hi, hj] at z
    exact of_decide_eq_true z
  · exact of_decide_eq_true (ce3 y hy a ha)
  · exact He.noat_ok (cd.facts (f := .noat q.1 q.2) (by simp only [Pg.fa, List.mem_append, List.mem_map]; exact .inl (.inr (.inr (.inr (.inr (.inr (.inl ⟨q, hq, rfl⟩)))))) ))
  · exact He.meth_ok (cd.facts (f := .meth q.1 q.2) (by simp only [Pg.fa, List.mem_append, List.mem_map]; exact .inl (.inr (.inr (.inr (.inr (.inr (.inr (.inl ⟨q, hq, rfl⟩))))))) ))
  · have z := ce4 q hq
    simp only [propB, Bool.and_eq_true, decide_eq_true_eq] at z
    obtain ⟨z1, z2, z3, z4⟩ := z
    refine ⟨He.eqO_ok z1, He.eqO_ok z2, z3, ?_⟩
    unfold gtA
    split at z4
    · rename_i g rest e
      rw [e]
      exact ⟨rest, rfl⟩
    · cases z4
  · exact He.mkr_ok (cd.facts (f := .mkr x) (by simp only [Pg.fa, List.mem_append, List.mem_map]; exact .inl (.inr (.inr (.inr (.inr (.inr (.inr (.inr ⟨x, hx, rfl⟩))))))) ))
  · have z := ce5 q hq
    refine ⟨_, hglo q.1 (by simp only [Pg.glos, List.mem_append, List.mem_map]; exact .inr (.inr (.inl ⟨q, hq, rfl⟩))), ?_⟩
    obtain ⟨i, hi, e⟩ := List.mem_iff_getElem.mp hq
    have e1 : p.gd[i]? = some q := by rw [List.getElem?_eq_getElem hi, e]
    have e2 : p.ts.map (fun t => He.dicW K (t.1 K)) = p.ts.map fun t => some (He.keysIn w.params t.2) := congrArg (fun z : He.AlT => z.2) c
    have e3 := congrArg (fun l => l[i]?) e2
    simp only [Pg.ts, List.getElem?_map, e1, Option.map_some, Option.some.injEq] at e3
    exact gdOk_of e3 (List.all_eq_true.mpr z.1) z.2
  · refine ⟨_, hglo q.1 (by simp only [Pg.glos, List.mem_append, List.mem_map]; exact .inr (.inr (.inr ⟨q, hq, rfl⟩))), fun H => ?_⟩
    have z := He.tupB_ok (ce6 q hq) H
    rw [List.map_map] at z
    exact z
theorem glo_of (X : K.In h) (G : h.Ns mainGlobals mg) (c : He.SaysD (p.fa ++ ex) fn K) {t : Nat} {g : Tg} (e : p.tg[t]? = some g) (y : Str) (hy : g.at_ = .glo y) : mg y = some (.ref (g.at_.ad K)) := by
  rw [hy]
  exact He.glo_ok X G (c.facts (f := .glo y) (by simp only [Pg.fa, Pg.glos, List.mem_append, List.mem_map, List.mem_filterMap]; exact .inl (.inr (.inr (.inr (.inl ⟨y, .inl ⟨g, List.mem_of_getElem? e, by rw [hy]⟩, rfl⟩))))))
end
/-- a def's row: its datum, the names of its slots, of its parameters, the small one -/
structure Rw where
  dd : He.DefD
  N : List Str
  ps : List Str
def scB (N ps : List Str) (sc : Scope) : Bool := (match sc.kind with
    | .function => true
    | _ => false) && !sc.isCoroutine && !sc.isGenerator && decide N.Nodup && decide (N.take ps.length = ps) && (ps.all fun x => match sc.names.lookup x with
    | some .local => true
    | some .cell => true
    | _ => false) && (sc.names.all fun y => match y.2 with
    | .free => false
    | _ => true)
theorem scB_ok {N ps : List Str} {sc : Scope} (h : scB N ps sc = true) : FnScope N ps sc := by
  simp only [scB, Bool.and_eq_true, decide_eq_true_eq, Bool.not_eq_true', List.all_eq_true] at h
  obtain ⟨⟨⟨⟨⟨⟨h1, h2⟩, h3⟩, h4⟩, h5⟩, h6⟩, h7⟩ := h
  refine ⟨?_, h2, h3, h4, h5, fun x hx => ?_, fun y hy e => ?_⟩
  · split at h1
    · assumption
    · cases h1
  · have := h6 x hx
    split at this
    · exact .inl (by assumption)
    · exact .inr (by assumption)
    · cases this
  · have := h7 y hy
    rw [e] at this
    cases this
def rowB (p : Pg) (r : Rw) (df : Df) : Bool := scB r.N r.ps r.dd.scope && chkSs p ⟨r.N, r.dd.scope, r.N⟩ df.body r.dd.body && decide (df.slots = r.N.length)
theorem defOk_of {T : Tab} {p : Pg} {Tp : Tm} {K : PySem.W.Frag} {fn : List He.DefD} {fa : List He.Fa} (c : He.SaysD fa fn K) {t k : Nat} {g : Tg} {arr : List Arg} {df : Df} {r : Rw} (hr : r.dd ∈ fn) (h1 : Tp.tgs[t]? = some (k, arr)) (h2 : Tp.defs[k]? = some df) (hb : rowB p r df = true)
    (hbind : ∀ fd, FunD K r.dd.name r.dd.qual r.dd.params r.dd.body r.dd.scope (r.dd.dvs K) (r.dd.kws K) (He.fAd K r.dd.at_) fd → BindK K fd r.ps g.npos g.kws arr) : PySem.W.keepIn K (.ref (He.fAd K r.dd.at_)) = true ∧ DefOk T p Tp K t g (He.fAd K r.dd.at_) := by
  obtain ⟨fd, F⟩ := c.defs hr
  simp only [rowB, Bool.and_eq_true, decide_eq_true_eq] at hb
  exact ⟨F.kp, ⟨k, arr, df, _, _, _, _, _, _, _, fd, r.N, r.ps, h1, h2, F, scB_ok hb.1.1, hb.1.2, hb.2, hbind fd F⟩⟩
theorem walk_dx {l : PySem.W.OpenLaw} {n k : Nat} {q : Program} {loose : List Str} {XP : (Str → Option Value) → Heap → Prop} {YP : World → Heap → Prop} {d : DefRec} {CX : World → CXT} {x : Str}
    (hn : l.most = some n) (hn2 : n ≤ sizeLine) (hdf : d.params.defaults = []) (hr : Room k callerA)
    (F : ∀ (w : World) (mg : Str → Option Value) (fa : Addr) (h : Heap), YP w h → h.Ns mainGlobals mg → mg d.name = some (.ref fa) →
      ∃ (K : PySem.W.Frag) (fd : FuncData) (sp : Heap → Sp), K.In h ∧ (∀ (s : Shared) (u : Value), BindsTo s fd ⟨[u], []⟩ [(x, u)]) ∧
        (∀ (b : Heap) (H : Hp) (a : Addr) (ns : List Int), ns.length ≤ n → Only H → SqL K H a (ns.map V.int) → sp b [.ref a] H (fun v _ => v = .bl true) fun _ _ _ => False) ∧
        ∀ base : Heap, K.In base → base.Ns mainGlobals mg → FnOk l.prog w K mg base (CX w) k fa fd [x] (sp base))
    (hCX : ∀ (w : World) (H : Hp) (s : Shared) (e : Value) (s' : Shared), CX w [] H s (fun _ _ _ => False) e s' → False) :
    PySem.W.WalkO q loose XP YP l.row.toRowW d [] (fun f vs => PySem.call f vs) := by
  refine Att.attach_call hn hdf fun w s₀ s₁ mg mb fa o pm cd doc a vs ns G Y ho hd hcd hmg hobj hints hlen hg => ?_
  obtain ⟨K, fd, sp, KX, hb, hsp, hF⟩ := F w mg fa _ Y G.T.g hmg
  exact law_call (sp := fun vs H Q E => ∀ b, sp b vs H Q E) KX G.T.g G.T.b G.T.builtins G.T.nolimit hg hobj hints (Nat.le_trans hlen hn2) hr (fun base h1 h2 => (hF base h1 h2).imp fun vs H Q E h => h base) hb (fun H hO hS b => hsp b H a ns hlen hO hS) fun H e s' => hCX w H s₁ e s'
/-- the law's def keeps the law -/
theorem law_sp {T : Tab} {P : Program} {w : World} {K : PySem.W.Frag} {mg : Str → Option Value} {base : Heap} {C : Env} {df : Df} {H : Hp} {a : Addr} {ns : List Int} (hO : Only H) (hS : SqL K H a (ns.map V.int))
    (h : wp (runD C df [.scr (ns.map W.int)]) [] (fun w _ => w = .bl true) fun _ _ => False) : spD T P w K mg base C df 1 [.ref a] H (fun v _ => v = .bl true) fun _ _ _ => False := by
  have hs : Scr K H a (ns.map V.int) := by
    rcases hS with (h | ⟨o, h⟩) | h
    · rcases hO a with z | ⟨o, xs, z⟩
      · rw [h] at z; cases z
      · rw [h] at z; cases z
    · exact .inl ⟨o, h⟩
    · exact .inr h
  have hr : ∀ ns : List Int, RelWs K [] H (ns.map W.int) (ns.map V.int) := fun ns => by
    induction ns with
    | nil => exact .nil
    | cons n ns ih => exact .cons (.int n) ih
  refine ⟨rfl, [], [], [.scr (ns.map W.int)], [], ⟨rfl, List.nodup_nil, fun l a o h1 h2 => by simp at h1⟩, .cons (.scr hs (hr ns)) .nil, ?_⟩
  refine wp_mono h (fun v L' e m' H' b _ _ r => ?_) fun _ _ z => z.elim
  subst e
  cases r
  rfl
theorem hCX_of {P : Program} : ∀ (w : World) (H : Hp) (s : Shared) (e : Value) (s' : Shared), L2.CX P w [] H s (fun _ _ _ => False) e s' → False := fun w H s e s' h => by
  obtain ⟨_, _, _, _, _, _, _, _, _, _, _, _, z⟩ := h
  exact z
end Dx

set_option maxRecDepth 100000
set_option maxHeartbeats 4000000
/-! Dx10: plain rules of the evaluator; the hand that all laws draw from. -/
namespace Dx
open PySem
section
variable {C : Env} {L : Hh}
/-- nothing but l differs -/
structure Same1 (l : Nat) (L L' : Hh) : Prop where
  len : L'.length = L.length
  ne : ∀ j, j ≠ l → L'[j]? = L[j]?
theorem Same1.refl (l : Nat) (L : Hh) : Same1 l L L := ⟨rfl, fun _ _ => rfl⟩
theorem Same1.trans {l : Nat} {L L1 L2 : Hh} (a : Same1 l L L1) (b : Same1 l L1 L2) : Same1 l L L2 := ⟨b.len.trans a.len, fun j h => (b.ne j h).trans (a.ne j h)⟩
theorem Same1.set {l : Nat} {L L1 : Hh} (a : Same1 l L L1) (o : O) : Same1 l L (L1.set l o) := ⟨by rw [List.length_set, a.len], fun j h => by rw [List.getElem?_set_ne (Ne.symm h)]; exact a.ne j h⟩
theorem get_set {l : Nat} {L : Hh} {o o' : O} (h : L[l]? = some o) : (L.set l o')[l]? = some o' := by
  obtain ⟨q, _⟩ := List.getElem?_eq_some_iff.mp h
  exact List.getElem?_set_self q
theorem get_new {L : Hh} {o : O} : (L ++ [o])[L.length]? = some o := by simp
theorem get_old {L : Hh} {o o' : O} {j : Nat} (h : L[j]? = some o) : (L ++ [o'])[j]? = some o := by
  obtain ⟨q, _⟩ := List.getElem?_eq_some_iff.mp h
  rw [List.getElem?_append_left q]
  exact h
theorem lt_of_get {L : Hh} {j : Nat} {o : O} (h : L[j]? = some o) : j < L.length := (List.getElem?_eq_some_iff.mp h).1
/-- no class has an operator's method -/
class NoDu (C : Env) : Prop where
  du : ∀ c i, C.du c i = none
instance noDuD {P : Tm} : ∀ d, NoDu (envD P d)
  | 0 => ⟨fun _ _ => rfl⟩
  | _ + 1 => ⟨fun _ _ => rfl⟩
/-- not an object: own methods of operators are not asked -/
theorem clsOf_none {L : Hh} {w : W} (h : ∀ l c fs, w = .ref l → L[l]? ≠ some (.ins c fs)) : clsOf L w = none := by
  cases w with
  | ref l =>
    unfold clsOf
    dsimp only
    cases e : L[l]? with
    | none => rfl
    | some o =>
      cases o with
      | ins c fs => exact absurd e (h l c fs rfl)
      | _ => rfl
  | _ => rfl
/-! ### pieces of a run -/
theorem wp_runD {f : Df} {as : List W} {Q : W → Hh → Prop} {E : W → Hh → Prop} (hl : as.length ≤ f.slots) (h : wp (exSs C f.body (as.map some ++ List.replicate (f.slots - as.length) none)) L (fun r L' => wp (endOf r) L' Q E) E) : wp (runD C f as) L Q E := by
  unfold runD
  rw [if_pos (decide_eq_true hl), wp_bnd]
  exact h
/-! ### rules that rewrite -/
section
variable {ρ : Fr} {Q : W → Hh → Prop} {E : W → Hh → Prop}
@[simp] theorem wp_ite {α : Type} {p : Prop} [Decidable p] {a b : M α} {Q : α → Hh → Prop} : wp (if p then a else b) L Q E = if p then wp a L Q E else wp b L Q E := by by_cases h : p <;> simp [h]
@[simp] theorem wp_var {i : Nat} : wp (evE C ρ (.var i)) L Q E = (match ρ[i]? with
    | some (some w) => Q w L
    | _ => False) := by
  show wp (match ρ[i]? with
    | some (some w) => ret w
    | _ => fail) L Q E = _
  cases ρ[i]? with
  | none => rfl
  | some o => cases o <;> rfl
@[simp] theorem wp_kn : wp (evE C ρ .kn) L Q E = Q .non L := rfl
@[simp] theorem wp_kb {b : Bool} : wp (evE C ρ (.kb b)) L Q E = Q (.bl b) L := rfl
@[simp] theorem wp_ki {i : Int} : wp (evE C ρ (.ki i)) L Q E = Q (.int i) L := rfl
@[simp] theorem wp_ks {x : Txt} : wp (evE C ρ (.ks x)) L Q E = Q (.str x) L := rfl
@[simp] theorem wp_gi {g : Str} {i : Int} : wp (evE C ρ (.gi g i)) L Q E = Q (.int i) L := rfl
@[simp] theorem wp_gs {g : Str} {x : Txt} : wp (evE C ρ (.gs g x)) L Q E = Q (.str x) L := rfl
@[simp] theorem wp_bin {op : BOp} {a b : Ex} : wp (evE C ρ (.bin op a b)) L Q E = wp (evE C ρ a) L (fun x L1 => wp (evE C ρ b) L1 (fun y L2 => wp (binop op x y) L2 Q E) E) E := by simp only [evE, wp_bnd]
@[simp] theorem wp_cmp {op : COp} {a b : Ex} : wp (evE C ρ (.cmp op a b)) L Q E = wp (evE C ρ a) L (fun x L1 => wp (evE C ρ b) L1 (fun y L2 => wp (cmpX C op x y) L2 Q E) E) E := by simp only [evE, wp_bnd]
@[simp] theorem wp_sub {a b : Ex} : wp (evE C ρ (.sub a b)) L Q E = wp (evE C ρ a) L (fun x L1 => wp (evE C ρ b) L1 (fun y L2 => wp (itemAt x y) L2 Q E) E) E := by simp only [evE, wp_bnd]
@[simp] theorem wp_lst {xs : List Ex} : wp (evE C ρ (.lst xs)) L Q E = wp (evEs C ρ xs) L (fun ws L1 => if lenOk ws.length = true then Q (.ref L1.length) (L1 ++ [.lst ws]) else False) E := by
  simp only [evE, wp_bnd, wp_ite, wp_fail]
  rfl
@[simp] theorem wp_tup {xs : List Ex} : wp (evE C ρ (.tup xs)) L Q E = wp (evEs C ρ xs) L (fun ws L1 => if lenOk ws.length = true then Q (.tup ws) L1 else False) E := by
  simp only [evE, wp_bnd, wp_ite, wp_fail, wp_ret]
@[simp] theorem wp_call {t : Nat} {xs ys : List Ex} : wp (evE C ρ (.call t xs ys)) L Q E = wp (evEs C ρ xs) L (fun ws L1 => wp (evEs C ρ ys) L1 (fun zs L2 => wp (C.call t (ws ++ zs)) L2 Q E) E) E := by simp only [evE, wp_bnd]
@[simp] theorem wp_bi {b : Bi} {xs : List Ex} : wp (evE C ρ (.bi b xs)) L Q E = wp (evEs C ρ xs) L (fun ws L1 => wp (callBX C b ws) L1 Q E) E := by simp only [evE, wp_bnd]
@[simp] theorem wp_met {m : Bm} {o : Ex} {xs : List Ex} : wp (evE C ρ (.met m o xs)) L Q E = wp (evE C ρ o) L (fun x L1 => if rcvOk L1 m x = true then wp (evEs C ρ xs) L1 (fun ws L2 => wp (callM m x ws) L2 Q E) E else False) E := by simp only [evE, wp_bnd, wp_gets, wp_ite, wp_fail]
@[simp] theorem wp_ifx {t : Tx} {a b : Ex} : wp (evE C ρ (.ifx t a b)) L Q E = wp (evT C ρ t) L (fun k L1 => if k = true then wp (evE C ρ a) L1 Q E else wp (evE C ρ b) L1 Q E) E := by simp only [evE, wp_bnd, wp_ite]
@[simp] theorem wp_bnot {a : Ex} : wp (evE C ρ (.bnot a)) L Q E = wp (evE C ρ a) L (fun x L1 => wp (truth x) L1 (fun b L2 => Q (.bl (!b)) L2) E) E := by simp only [evE, wp_bnd, wp_ret]
@[simp] theorem wp_band {xs : List Ex} : wp (evE C ρ (.band xs)) L Q E = wp (evAnd C ρ xs) L Q E := by simp only [evE]
@[simp] theorem wp_bor {xs : List Ex} : wp (evE C ρ (.bor xs)) L Q E = wp (evOr C ρ xs) L Q E := by simp only [evE]
@[simp] theorem wp_and1 {x : Ex} : wp (evAnd C ρ [x]) L Q E = wp (evE C ρ x) L Q E := by simp only [evAnd, wp_bnd, List.isEmpty_nil, if_true, wp_ret]
@[simp] theorem wp_and2 {x y : Ex} {xs : List Ex} : wp (evAnd C ρ (x :: y :: xs)) L Q E = wp (evE C ρ x) L (fun w L1 => match w with
    | .bl b => if b = true then wp (evAnd C ρ (y :: xs)) L1 Q E else Q (.bl false) L1
    | _ => False) E := by
  rw [evAnd, wp_bnd]
  congr 1
  funext w L1
  cases w <;> first | rfl | (rename_i b; cases b <;> rfl)
@[simp] theorem wp_or1 {x : Ex} : wp (evOr C ρ [x]) L Q E = wp (evE C ρ x) L Q E := by simp only [evOr, wp_bnd, List.isEmpty_nil, if_true, wp_ret]
@[simp] theorem wp_or2 {x y : Ex} {xs : List Ex} : wp (evOr C ρ (x :: y :: xs)) L Q E = wp (evE C ρ x) L (fun w L1 => match w with
    | .bl b => if b = true then Q (.bl true) L1 else wp (evOr C ρ (y :: xs)) L1 Q E
    | _ => False) E := by
  rw [evOr, wp_bnd]
  congr 1
  funext w L1
  cases w <;> first | rfl | (rename_i b; cases b <;> rfl)
@[simp] theorem wp_chn {o1 o2 : COp} {a b c : Ex} : wp (evE C ρ (.chn o1 o2 a b c)) L Q E = wp (evE C ρ a) L (fun x L1 => wp (evE C ρ b) L1 (fun y L2 => wp (cmpop o1 x y) L2 (fun r L3 => match r with
    | .bl k => if k = true then wp (evE C ρ c) L3 (fun z L4 => wp (cmpop o2 y z) L4 Q E) E else Q (.bl false) L3
    | _ => False) E) E) E := by
  simp only [evE, wp_bnd]
  congr 1; funext x L1; congr 1; funext y L2; congr 1; funext r L3
  cases r <;> first | rfl | (rename_i k; cases k <;> first | rfl | (simp only [wp_bnd]; rfl))
@[simp] theorem wp_es_nil {Q : List W → Hh → Prop} : wp (evEs C ρ []) L Q E = Q [] L := rfl
@[simp] theorem wp_es_cons {x : Ex} {xs : List Ex} {Q : List W → Hh → Prop} : wp (evEs C ρ (x :: xs)) L Q E = wp (evE C ρ x) L (fun w L1 => wp (evEs C ρ xs) L1 (fun ws L2 => Q (w :: ws) L2) E) E := by simp only [evEs, wp_bnd, wp_ret]
@[simp] theorem wp_o_none {Q : Option Int → Hh → Prop} : wp (evO C ρ none) L Q E = Q none L := rfl
@[simp] theorem wp_o_some {x : Ex} {Q : Option Int → Hh → Prop} : wp (evO C ρ (some x)) L Q E = wp (evE C ρ x) L (fun w L1 => match w with
    | .int i => Q (some i) L1
    | _ => False) E := by
  simp only [evO, optI, wp_bnd]
  congr 1; funext w L1
  cases w <;> rfl
@[simp] theorem wp_slc {a : Ex} {lo hi : Option Ex} : wp (evE C ρ (.slc a lo hi)) L Q E = wp (evE C ρ a) L (fun x L1 => wp (evO C ρ lo) L1 (fun l L2 => wp (evO C ρ hi) L2 (fun h L3 => wp (sliceOf x l h) L3 Q E) E) E) E := by simp only [evE, wp_bnd]
@[simp] theorem wp_isi {x : Ex} {c : Cl} : wp (evE C ρ (.isi x c)) L Q E = wp (evE C ρ x) L (fun w L1 => match isKind C.sub L1 w c with
    | some b => Q (.bl b) L1
    | none => False) E := by
  simp only [evE, wp_bnd, wp_gets]
  congr 1; funext w L1
  cases isKind C.sub L1 w c <;> rfl
@[simp] theorem wp_isis {x : Ex} {cs : List Cl} : wp (evE C ρ (.isis x cs)) L Q E = wp (evE C ρ x) L (fun w L1 => if cs ≠ [] ∧ cs.length < 64 then (match anyKind C.sub L1 w cs with
    | some b => Q (.bl b) L1
    | none => False) else False) E := by
  simp only [evE, wp_bnd, wp_gets, wp_ite, wp_fail]
  congr 1; funext w L1
  split
  · cases anyKind C.sub L1 w cs <;> rfl
  · rfl
@[simp] theorem wp_srtset {x : Ex} : wp (evE C ρ (.srtset x)) L Q E = wp (evE C ρ x) L (fun w L1 => wp (sortSet w) L1 Q E) E := by simp only [evE, wp_bnd]
@[simp] theorem wp_neg {x : Ex} : wp (evE C ρ (.neg x)) L Q E = wp (evE C ρ x) L (fun w L1 => match w with
    | .int i => Q (.int (-i)) L1
    | _ => False) E := by
  simp only [evE, wp_bnd]
  congr 1; funext w L1
  cases w <;> rfl
@[simp] theorem wp_fld {o : Ex} {f : Nat} : wp (evE C ρ (.fld o f)) L Q E = wp (evE C ρ o) L (fun x L1 => wp (fldOf C x f) L1 Q E) E := by simp only [evE, wp_bnd]
theorem wp_fldOf {l f c : Nat} {fs : List (Nat × W)} {w : W} (h : L[l]? = some (.ins c fs)) (h1 : C.cf c f = true) (h2 : getFld fs f = some w) : wp (fldOf C (.ref l) f) L Q E = Q w L := by
  show wp (match L[l]? with
    | some (.ins c fs) => if C.cf c f then (match getFld fs f with
      | some w => ret w
      | none => fail) else fail
    | _ => fail) L Q E = _
  rw [h]
  dsimp only
  rw [h1, if_pos rfl, h2]
  rfl
theorem wp_setFld {l f c : Nat} {fs : List (Nat × W)} {w : W} {Q : Unit → Hh → Prop} (h : L[l]? = some (.ins c fs)) (h1 : C.cf c f = true) (h2 : fs.length < 900) : wp (setFld C (.ref l) w f) L Q E = Q () (L.set l (.ins c (putFld f w fs))) := by
  show wp (match L[l]? with
    | some (.ins c fs) => if C.cf c f && decide (fs.length < 900) then put l (.ins c (putFld f w fs)) else fail
    | _ => fail) L Q E = _
  rw [h]
  dsimp only
  rw [h1, if_pos (by simpa using h2)]
  rfl
@[simp] theorem wp_mcall {m : Nat} {o : Ex} {xs ys : List Ex} : wp (evE C ρ (.mcall m o xs ys)) L Q E = wp (evE C ρ o) L (fun x L1 => match (clsOf L1 x).bind fun c => C.mt c m with
    | some t => wp (evEs C ρ xs) L1 (fun ws L2 => wp (evEs C ρ ys) L2 (fun zs L3 => wp (C.call t (x :: (ws ++ zs))) L3 Q E) E) E
    | none => False) E := by
  simp only [evE, wp_bnd, wp_gets]
  congr 1; funext w L1
  cases (clsOf L1 w).bind fun c => C.mt c m with
  | none => rfl
  | some t => simp only [wp_bnd]
@[simp] theorem wp_mk {k : Nat} {xs ys : List Ex} : wp (evE C ρ (.mk k xs ys)) L Q E = wp (evEs C ρ xs) L (fun ws L1 => wp (evEs C ρ ys) L1 (fun zs L2 => wp (makeOf C k (ws ++ zs)) L2 Q E) E) E := by simp only [evE, wp_bnd]
theorem wp_make {k c t : Nat} {as : List W} (h : C.mks k = some (c, t)) : wp (makeOf C k as) L Q E = wp (C.callM t (.ref L.length :: as)) (L ++ [.ins c []]) (fun r L1 => match r with
    | .non => Q (.ref L.length) L1
    | _ => False) E := by
  unfold makeOf
  rw [h]
  simp only [wp_bnd]
  show wp (C.callM t (.ref L.length :: as)) (L ++ [.ins c []]) _ E = _
  congr 1; funext r L1
  cases r <;> rfl
@[simp] theorem wp_fst {ps : List Ex} : wp (evE C ρ (.fst ps)) L Q E = wp (evFs C ρ ps []) L (fun t L1 => Q (.str t) L1) E := by simp only [evE, wp_bnd, wp_ret]
@[simp] theorem wp_fs_nil {acc : Txt} {Q : Txt → Hh → Prop} : wp (evFs C ρ [] acc) L Q E = Q acc L := rfl
@[simp] theorem wp_fs_cons {x : Ex} {xs : List Ex} {acc : Txt} {Q : Txt → Hh → Prop} : wp (evFs C ρ (x :: xs) acc) L Q E = wp (evE C ρ x) L (fun w L1 => match fmtW w with
    | some y => if lenOk (acc.length + y.length) = true then wp (evFs C ρ xs (acc ++ y)) L1 Q E else False
    | none => False) E := by
  simp only [evFs, wp_bnd]
  congr 1; funext w L1
  cases fmtW w <;> first | rfl | simp only [wp_ite, wp_fail]
@[simp] theorem wp_dnew {tt : Bool} : wp (evE C ρ (.dnew tt)) L Q E = Q (.ref L.length) (L ++ [.dct tt []]) := by simp only [evE]; rfl
@[simp] theorem wp_dsp {ps : List Ex} : wp (evE C ρ (.dsp ps)) L Q E = wp (evPs C ρ ps) L (fun kvs L1 => if kvs.length ≤ 15 then Q (.ref L1.length) (L1 ++ [.dct false (kvs.foldl (fun acc p => dPut acc p.1 p.2) [])]) else False) E := by
  simp only [evE, wp_bnd, wp_ite, wp_fail, decide_eq_true_eq]
  rfl
@[simp] theorem wp_ps_nil {Q : List (Ky × W) → Hh → Prop} : wp (evPs C ρ []) L Q E = Q [] L := rfl
@[simp] theorem wp_ps_cons {k v : Ex} {r : List Ex} {Q : List (Ky × W) → Hh → Prop} : wp (evPs C ρ (k :: v :: r)) L Q E = wp (evE C ρ k) L (fun kw L1 => wp (evE C ρ v) L1 (fun vw L2 => wp (evPs C ρ r) L2 (fun ps L3 => match keyFit false kw with
    | some ky => Q ((ky, vw) :: ps) L3
    | none => False) E) E) E := by
  simp only [evPs, wp_bnd]
  congr 1; funext kw L1; congr 1; funext vw L2; congr 1; funext ps L3
  cases keyFit false kw <;> rfl
@[simp] theorem wp_dgetd {o k x : Ex} : wp (evE C ρ (.dgetd o k x)) L Q E = wp (evE C ρ o) L (fun d L1 => if (dctAt L1 d).isSome = true then wp (evE C ρ k) L1 (fun kv L2 => wp (evE C ρ x) L2 (fun xv L3 => wp (getD d kv xv) L3 Q E) E) E else False) E := by
  simp only [evE, wp_bnd, wp_gets, wp_ite, wp_fail]
@[simp] theorem wp_getD {o k x : W} : wp (getD o k x) L Q E = (match dctAt L o with
    | some (tt, kvs) => (match keyFit tt k with
      | some k => Q ((dGet kvs k).getD x) L
      | none => False)
    | none => False) := by
  show wp (match dctAt L o with
    | some (tt, kvs) => (match keyFit tt k with
      | some k => ret ((dGet kvs k).getD x)
      | none => fail)
    | none => fail) L Q E = _
  cases dctAt L o with
  | none => rfl
  | some p =>
    obtain ⟨tt, kvs⟩ := p
    dsimp only
    cases keyFit tt k <;> rfl
@[simp] theorem wp_kin {ng : Bool} {x : Ex} {g : Str} {ks : List Txt} : wp (evE C ρ (.kin ng x g ks)) L Q E = wp (evE C ρ x) L (fun w L1 => match w with
    | .str t => Q (.bl (if ng = true then !decide (t ∈ ks) else decide (t ∈ ks))) L1
    | _ => False) E := by
  simp only [evE, wp_bnd]
  congr 1; funext w L1
  cases w <;> rfl
@[simp] theorem wp_kget {x : Ex} {g : Str} {kvs : List (Txt × W)} : wp (evE C ρ (.kget x g kvs)) L Q E = wp (evE C ρ x) L (fun w L1 => match w with
    | .str t => (match kvs.lookup t with
      | some v => Q v L1
      | none => False)
    | _ => False) E := by
  simp only [evE, wp_bnd]
  congr 1; funext w L1
  cases w <;> try rfl
  rename_i t
  dsimp only
  cases kvs.lookup t <;> rfl
@[simp] theorem wp_rev {x : Ex} : wp (evE C ρ (.rev x)) L Q E = wp (evE C ρ x) L (fun w L1 => wp (revOf w) L1 Q E) E := by simp only [evE, wp_bnd]
/-! tests -/
@[simp] theorem wp_tval {x : Ex} {Q : Bool → Hh → Prop} : wp (evT C ρ (.val x)) L Q E = wp (evE C ρ x) L (fun w L1 => wp (truth w) L1 Q E) E := by simp only [evT, wp_bnd]
@[simp] theorem wp_tbv {x : Ex} {Q : Bool → Hh → Prop} : wp (evT C ρ (.bv x)) L Q E = wp (evE C ρ x) L (fun w L1 => match w with
    | .bl b => Q b L1
    | _ => False) E := by
  simp only [evT, wp_bnd]
  congr 1; funext w L1
  cases w <;> rfl
@[simp] theorem wp_tnt {t : Tx} {Q : Bool → Hh → Prop} : wp (evT C ρ (.nt t)) L Q E = wp (evT C ρ t) L (fun b L1 => Q (!b) L1) E := by simp only [evT, wp_bnd, wp_ret]
@[simp] theorem wp_tall {ts : List Tx} {Q : Bool → Hh → Prop} : wp (evT C ρ (.all ts)) L Q E = wp (tsAnd C ρ ts) L Q E := by simp only [evT]
@[simp] theorem wp_tany {ts : List Tx} {Q : Bool → Hh → Prop} : wp (evT C ρ (.any ts)) L Q E = wp (tsOr C ρ ts) L Q E := by simp only [evT]
@[simp] theorem wp_ta_nil {Q : Bool → Hh → Prop} : wp (tsAnd C ρ []) L Q E = Q true L := rfl
@[simp] theorem wp_ta_cons {t : Tx} {ts : List Tx} {Q : Bool → Hh → Prop} : wp (tsAnd C ρ (t :: ts)) L Q E = wp (evT C ρ t) L (fun b L1 => if b = true then wp (tsAnd C ρ ts) L1 Q E else Q false L1) E := by simp only [tsAnd, wp_bnd, wp_ite, wp_ret]
@[simp] theorem wp_to_nil {Q : Bool → Hh → Prop} : wp (tsOr C ρ []) L Q E = Q false L := rfl
@[simp] theorem wp_to_cons {t : Tx} {ts : List Tx} {Q : Bool → Hh → Prop} : wp (tsOr C ρ (t :: ts)) L Q E = wp (evT C ρ t) L (fun b L1 => if b = true then Q true L1 else wp (tsOr C ρ ts) L1 Q E) E := by simp only [tsOr, wp_bnd, wp_ite, wp_ret]
/-! operations -/
@[simp] theorem wp_addI {i j : Int} : wp (binop .add (.int i) (.int j)) L Q E = Q (.int (i + j)) L := rfl
@[simp] theorem wp_subI {i j : Int} : wp (binop .sub (.int i) (.int j)) L Q E = Q (.int (i - j)) L := rfl
@[simp] theorem wp_mulI {i j : Int} : wp (binop .mul (.int i) (.int j)) L Q E = if (smallI i || smallI j) = true then Q (.int (i * j)) L else False := by
  show wp (if (smallI i || smallI j) = true then ret (.int (i * j)) else fail) L Q E = _
  simp only [wp_ite, wp_ret, wp_fail]
@[simp] theorem wp_modI {i j : Int} : wp (binop .mod (.int i) (.int j)) L Q E = if 0 < j then Q (.int (i % j)) L else False := by
  show wp (if decide (0 < j) = true then ret (.int (i % j)) else fail) L Q E = _
  simp only [wp_ite, wp_ret, wp_fail, decide_eq_true_eq]
@[simp] theorem wp_fdivI {i j : Int} : wp (binop .fdiv (.int i) (.int j)) L Q E = if 0 < j ∧ j < 1073741824 then Q (.int (i / j)) L else False := by
  show wp (if (decide (0 < j) && decide (j < 1073741824)) = true then ret (.int (i / j)) else fail) L Q E = _
  simp only [wp_ite, wp_ret, wp_fail, decide_eq_true_eq, Bool.and_eq_true]
@[simp] theorem wp_powI {i j : Int} : wp (binop .pow (.int i) (.int j)) L Q E = if (0 ≤ j ∧ j ≤ 1000000) ∧ i.natAbs < 18446744073709551616 then Q (.int (i ^ j.toNat)) L else False := by
  show wp (if (decide (0 ≤ j) && decide (j ≤ 1000000) && decide (i.natAbs < 2 ^ 64)) = true then ret (.int (i ^ j.toNat)) else fail) L Q E = _
  simp only [wp_ite, wp_ret, wp_fail, decide_eq_true_eq, Bool.and_eq_true]
@[simp] theorem wp_addS {x y : Txt} : wp (binop .add (.str x) (.str y)) L Q E = if lenOk (x.length + y.length) = true then Q (.str (x ++ y)) L else False := by
  show wp (if lenOk (x.length + y.length) = true then ret (.str (x ++ y)) else fail) L Q E = _
  simp only [wp_ite, wp_ret, wp_fail]
@[simp] theorem wp_addL {a b : Nat} : wp (binop .add (.ref a) (.ref b)) L Q E = (match L[a]?, L[b]? with
    | some (.lst x), some (.lst y) => if lenOk (x.length + y.length) = true then Q (.ref L.length) (L ++ [.lst (x ++ y)]) else False
    | _, _ => False) := by
  show wp (match L[a]?, L[b]? with
    | some (.lst x), some (.lst y) => if lenOk (x.length + y.length) then alloc (.lst (x ++ y)) else fail
    | _, _ => fail) L Q E = _
  split
  · simp only [wp_ite, wp_fail]; rfl
  · rfl
@[simp] theorem clsOf_int {i : Int} : clsOf L (.int i) = none := rfl
@[simp] theorem clsOf_bl {b : Bool} : clsOf L (.bl b) = none := rfl
@[simp] theorem clsOf_str {t : Txt} : clsOf L (.str t) = none := rfl
@[simp] theorem clsOf_tup {ws : List W} : clsOf L (.tup ws) = none := rfl
@[simp] theorem clsOf_non : clsOf L .non = none := rfl
@[simp] theorem clsOf_ref {l : Nat} : clsOf L (.ref l) = (match L[l]? with
    | some (.ins c _) => some c
    | _ => none) := rfl
section
variable {x y : W}
@[simp] theorem wpX_lt : wp (cmpX C .lt x y) L Q E = wp (cmpop .lt x y) L Q E := rfl
@[simp] theorem wpX_le : wp (cmpX C .le x y) L Q E = wp (cmpop .le x y) L Q E := rfl
@[simp] theorem wpX_gt : wp (cmpX C .gt x y) L Q E = wp (cmpop .gt x y) L Q E := rfl
@[simp] theorem wpX_ge : wp (cmpX C .ge x y) L Q E = wp (cmpop .ge x y) L Q E := rfl
@[simp] theorem wpX_is : wp (cmpX C .is x y) L Q E = wp (cmpop .is x y) L Q E := rfl
@[simp] theorem wpX_isn : wp (cmpX C .isn x y) L Q E = wp (cmpop .isn x y) L Q E := rfl
@[simp] theorem wpX_eq : wp (cmpX C .eq x y) L Q E = if (clsOf L x).isSome = true then wp (blM id (callDu C 3 x [y])) L Q E else wp (cmpop .eq x y) L Q E := by
  show wp (if (clsOf L x).isSome = true then blM id (callDu C 3 x [y]) else cmpop .eq x y) L Q E = _
  rw [wp_ite]
@[simp] theorem wpX_ne : wp (cmpX C .ne x y) L Q E = if (clsOf L x).isSome = true then wp (blM not (callDu C 3 x [y])) L Q E else wp (cmpop .ne x y) L Q E := by
  show wp (if (clsOf L x).isSome = true then blM not (callDu C 3 x [y]) else cmpop .ne x y) L Q E = _
  rw [wp_ite]
@[simp] theorem wpX_inn : wp (cmpX C .inn x y) L Q E = if (clsOf L y).isSome = true then wp (blM id (callDu C 2 y [x])) L Q E else wp (cmpop .inn x y) L Q E := by
  show wp (if (clsOf L y).isSome = true then blM id (callDu C 2 y [x]) else cmpop .inn x y) L Q E = _
  rw [wp_ite]
@[simp] theorem wpX_nin : wp (cmpX C .nin x y) L Q E = if (clsOf L y).isSome = true then wp (blM not (callDu C 2 y [x])) L Q E else wp (cmpop .nin x y) L Q E := by
  show wp (if (clsOf L y).isSome = true then blM not (callDu C 2 y [x]) else cmpop .nin x y) L Q E = _
  rw [wp_ite]
@[simp] theorem wpX_len : wp (callBX C .len [x]) L Q E = if (clsOf L x).isSome = true then wp (lenM (callDu C 0 x [])) L Q E else wp (callB .len [x]) L Q E := by
  show wp (if (clsOf L x).isSome = true then lenM (callDu C 0 x []) else callB .len [x]) L Q E = _
  rw [wp_ite]
@[simp] theorem wpX_repr : wp (callBX C .reprf [x]) L Q E = if (clsOf L x).isSome = true then wp (strM (callDu C 1 x [])) L Q E else wp (callB .reprf [x]) L Q E := by
  show wp (if (clsOf L x).isSome = true then strM (callDu C 1 x []) else callB .reprf [x]) L Q E = _
  rw [wp_ite]
@[simp] theorem callBX_int {ws : List W} : callBX C .intf ws = callB .intf ws := by unfold callBX; rfl
@[simp] theorem callBX_all {ws : List W} : callBX C .allf ws = callB .allf ws := by unfold callBX; rfl
@[simp] theorem callBX_any {ws : List W} : callBX C .anyf ws = callB .anyf ws := by unfold callBX; rfl
@[simp] theorem callBX_sorted {ws : List W} : callBX C .sortedf ws = callB .sortedf ws := by unfold callBX; rfl
@[simp] theorem callBX_list {ws : List W} : callBX C .listf ws = callB .listf ws := by unfold callBX; rfl
@[simp] theorem callBX_tuple {ws : List W} : callBX C .tuplef ws = callB .tuplef ws := by unfold callBX; rfl
@[simp] theorem callBX_str {ws : List W} : callBX C .strf ws = callB .strf ws := by unfold callBX; rfl
@[simp] theorem callBX_min {ws : List W} : callBX C .minf ws = callB .minf ws := by unfold callBX; rfl
@[simp] theorem callBX_max {ws : List W} : callBX C .maxf ws = callB .maxf ws := by unfold callBX; rfl
@[simp] theorem callBX_abs {ws : List W} : callBX C .absf ws = callB .absf ws := by unfold callBX; rfl
end
@[simp] theorem wp_lt {i j : Int} : wp (cmpop .lt (.int i) (.int j)) L Q E = Q (.bl (decide (i < j))) L := rfl
@[simp] theorem wp_le {i j : Int} : wp (cmpop .le (.int i) (.int j)) L Q E = Q (.bl (decide (i ≤ j))) L := rfl
@[simp] theorem wp_gt {i j : Int} : wp (cmpop .gt (.int i) (.int j)) L Q E = Q (.bl (decide (j < i))) L := rfl
@[simp] theorem wp_ge {i j : Int} : wp (cmpop .ge (.int i) (.int j)) L Q E = Q (.bl (decide (j ≤ i))) L := rfl
@[simp] theorem wp_isN {x : W} : wp (cmpop .is x .non) L Q E = Q (.bl (isNone x)) L := by cases x <;> rfl
@[simp] theorem wp_isnN {x : W} : wp (cmpop .isn x .non) L Q E = Q (.bl (!isNone x)) L := by cases x <;> rfl
theorem wp_eq {x y : W} : wp (cmpop .eq x y) L Q E = (match asData L 64 x, asData L 64 y with
    | some d, some e => if (SeqAt.shaped d && SeqAt.shaped e) = true then Q (.bl (PyData.eqv d e)) L else False
    | _, _ => False) := by
  have : cmpop .eq x y = bnd (eqop x y) fun b => ret (.bl b) := by cases x <;> cases y <;> rfl
  rw [this, wp_bnd]
  show wp (match asData L 64 x, asData L 64 y with
    | some d, some e => if SeqAt.shaped d && SeqAt.shaped e then ret (PyData.eqv d e) else fail
    | _, _ => fail) L _ E = _
  split
  · simp only [wp_ite, wp_ret, wp_fail]
  · rfl
theorem wp_neq {x y : W} : wp (cmpop .ne x y) L Q E = (match asData L 64 x, asData L 64 y with
    | some d, some e => if (SeqAt.shaped d && SeqAt.shaped e) = true then Q (.bl (!PyData.eqv d e)) L else False
    | _, _ => False) := by
  have : cmpop .ne x y = bnd (eqop x y) fun b => ret (.bl (!b)) := by cases x <;> cases y <;> rfl
  rw [this, wp_bnd]
  show wp (match asData L 64 x, asData L 64 y with
    | some d, some e => if SeqAt.shaped d && SeqAt.shaped e then ret (PyData.eqv d e) else fail
    | _, _ => fail) L _ E = _
  split
  · simp only [wp_ite, wp_ret, wp_fail]
  · rfl
@[simp] theorem wp_itemL {l : Nat} {i : Int} : wp (itemAt (.ref l) (.int i)) L Q E = (match L[l]? with
    | some (.lst ws) => (match L2.atI ws i with
      | some w => Q w L
      | none => False)
    | some (.ro ws) => (match L2.atI ws i with
      | some w => Q w L
      | none => False)
    | some (.dct tt kvs) => (match keyFit tt (.int i) with
      | some k => (match dGet kvs k with
        | some w => Q w L
        | none => False)
      | none => False)
    | _ => False) := by
  show wp (match L[l]? with
    | some (.lst ws) => (match L2.atI ws i with | some w => ret w | none => fail)
    | some (.ro ws) => (match L2.atI ws i with | some w => ret w | none => fail)
    | some (.dct tt kvs) => (match keyFit tt (.int i) with
      | some k => (match dGet kvs k with | some w => ret w | none => fail)
      | none => fail)
    | _ => fail) L Q E = _
  cases L[l]? with
  | none => rfl
  | some o =>
    cases o with
    | lst ws => dsimp only; cases L2.atI ws i <;> rfl
    | ro ws => dsimp only; cases L2.atI ws i <;> rfl
    | dct tt kvs =>
      dsimp only
      cases keyFit tt (.int i) with
      | none => rfl
      | some k => dsimp only; cases dGet kvs k <;> rfl
    | _ => rfl
theorem wp_itemD {l : Nat} {tt : Bool} {kvs : List (Ky × W)} {i : W} (h : L[l]? = some (.dct tt kvs)) : wp (itemAt (.ref l) i) L Q E = (match keyFit tt i with
      | some k => (match dGet kvs k with
        | some w => Q w L
        | none => False)
      | none => False) := by
  show wp (match L[l]? with
    | some (.lst ws) => (match i with
      | .int i => (match L2.atI ws i with | some w => ret w | none => fail)
      | _ => fail)
    | some (.ro ws) => (match i with
      | .int i => (match L2.atI ws i with | some w => ret w | none => fail)
      | _ => fail)
    | some (.dct tt kvs) => (match keyFit tt i with
      | some k => (match dGet kvs k with | some w => ret w | none => fail)
      | none => fail)
    | _ => fail) L Q E = _
  rw [h]
  dsimp only
  cases keyFit tt i with
  | none => rfl
  | some k => dsimp only; cases dGet kvs k <;> rfl
@[simp] theorem wp_itemT {ws : List W} {i : Int} : wp (itemAt (.tup ws) (.int i)) L Q E = (match L2.atI ws i with
    | some w => Q w L
    | none => False) := by
  show wp (match L2.atI ws i with | some w => ret w | none => fail) L Q E = _
  cases L2.atI ws i <;> rfl
@[simp] theorem wp_itemS {t : Txt} {i : Int} : wp (itemAt (.str t) (.int i)) L Q E = if lenOk t.length = true then (match L2.atI t i with
    | some c => Q (.str [c]) L
    | none => False) else False := by
  show wp (if lenOk t.length then (match L2.atI t i with | some c => ret (.str [c]) | none => fail) else fail) L Q E = _
  simp only [wp_ite, wp_fail]
  split
  · cases L2.atI t i <;> rfl
  · rfl
@[simp] theorem wp_trb {b : Bool} {Q : Bool → Hh → Prop} : wp (truth (.bl b)) L Q E = Q b L := rfl
@[simp] theorem wp_tri {i : Int} {Q : Bool → Hh → Prop} : wp (truth (.int i)) L Q E = Q (i != 0) L := rfl
@[simp] theorem wp_lenL {l : Nat} : wp (callB .len [.ref l]) L Q E = (match itemsOf L (.ref l) with
    | some ws => Q (.int ws.length) L
    | none => False) := by
  show wp (match itemsOf L (.ref l) with
    | some ws => ret (.int ws.length)
    | none => fail) L Q E = _
  cases itemsOf L (.ref l) <;> rfl
@[simp] theorem wp_lenT {ws : List W} : wp (callB .len [.tup ws]) L Q E = Q (.int ws.length) L := rfl
@[simp] theorem wp_lenS {x : Txt} : wp (callB .len [.str x]) L Q E = if lenOk x.length = true then Q (.int x.length) L else False := by
  show wp (if lenOk x.length then ret (.int x.length) else fail) L Q E = _
  simp only [wp_ite, wp_ret, wp_fail]
@[simp] theorem wp_intI {i : Int} : wp (callB .intf [.int i]) L Q E = Q (.int i) L := rfl
theorem itemsOf_lst {l : Nat} {ws : List W} (h : L[l]? = some (.lst ws)) : itemsOf L (.ref l) = some ws := by unfold itemsOf; dsimp only; rw [h]
@[simp] theorem wp_setL {l : Nat} {k : Int} {w : W} {Q : Unit → Hh → Prop} : wp (setItem (.ref l) (.int k) w) L Q E = (match L[l]? with
    | some (.lst ws) => (match L2.ixN ws.length k with
      | some j => Q () (L.set l (.lst (ws.set j w)))
      | none => False)
    | some (.dct tt kvs) => (match keyFit tt (.int k) with
      | some ky => if kvs.length < sizeLine then Q () (L.set l (.dct tt (dPut kvs ky w))) else False
      | none => False)
    | _ => False) := by
  show wp (match L[l]? with
    | some (.lst ws) => (match L2.ixN ws.length k with
      | some j => put l (.lst (ws.set j w))
      | none => fail)
    | some (.dct tt kvs) => (match keyFit tt (.int k) with
      | some ky => if decide (kvs.length < sizeLine) then put l (.dct tt (dPut kvs ky w)) else fail
      | none => fail)
    | _ => fail) L Q E = _
  cases L[l]? with
  | none => rfl
  | some o =>
    cases o with
    | lst ws => dsimp only; cases L2.ixN ws.length k <;> rfl
    | dct tt kvs =>
      dsimp only
      cases keyFit tt (.int k) with
      | none => rfl
      | some ky =>
        simp only [wp_ite, wp_fail, decide_eq_true_eq]
        rfl
    | _ => rfl
/-! targets, statements -/
@[simp] theorem wp_gnm {i : Nat} {w : W} {Q : Fr → Hh → Prop} : wp (asgT C (.nm i) w ρ) L Q E = Q (ρ.set i (some w)) L := rfl
@[simp] theorem wp_gtup {ts : List Tgt} {ws : List W} {Q : Fr → Hh → Prop} : wp (asgT C (.tup ts) (.tup ws) ρ) L Q E = wp (asgTs C ts ws ρ) L Q E := by simp only [asgT]
@[simp] theorem wp_gsub {o i : Ex} {w : W} {Q : Fr → Hh → Prop} : wp (asgT C (.sub o i) w ρ) L Q E = wp (evE C ρ o) L (fun x L1 => wp (evE C ρ i) L1 (fun y L2 => wp (setItem x y w) L2 (fun _ L3 => Q ρ L3) E) E) E := by simp only [asgT, wp_bnd, wp_ret]
@[simp] theorem wp_gfld {o : Ex} {f : Nat} {w : W} {Q : Fr → Hh → Prop} : wp (asgT C (.fld o f) w ρ) L Q E = wp (evE C ρ o) L (fun x L1 => wp (setFld C x w f) L1 (fun _ L2 => Q ρ L2) E) E := by simp only [asgT, wp_bnd, wp_ret]
@[simp] theorem wp_gs_nil {Q : Fr → Hh → Prop} : wp (asgTs C [] [] ρ) L Q E = Q ρ L := rfl
@[simp] theorem wp_gs_cons {t : Tgt} {ts : List Tgt} {w : W} {ws : List W} {Q : Fr → Hh → Prop} : wp (asgTs C (t :: ts) (w :: ws) ρ) L Q E = wp (asgT C t w ρ) L (fun ρ1 L1 => wp (asgTs C ts ws ρ1) L1 Q E) E := by simp only [asgTs, wp_bnd]
end
/-- what follows a statement -/
def thenS (C : Env) (xs : List Sm) (Q : Fl × Fr → Hh → Prop) (E : W → Hh → Prop) (r : Fl × Fr) (L : Hh) : Prop := match r.1 with
  | .nx => wp (exSs C xs r.2) L Q E
  | .rt w => Q (.rt w, r.2) L
  | .bk => Q (.bk, r.2) L
  | .ct => Q (.ct, r.2) L
  | .ex e => Q (.ex e, r.2) L
section
variable {ρ : Fr} {Q : Fl × Fr → Hh → Prop} {E : W → Hh → Prop} {xs : List Sm}
@[simp] theorem thenS_nx : thenS C xs Q E (.nx, ρ) L = wp (exSs C xs ρ) L Q E := rfl
@[simp] theorem thenS_rt {w : W} : thenS C xs Q E (.rt w, ρ) L = Q (.rt w, ρ) L := rfl
@[simp] theorem thenS_bk : thenS C xs Q E (.bk, ρ) L = Q (.bk, ρ) L := rfl
@[simp] theorem thenS_ct : thenS C xs Q E (.ct, ρ) L = Q (.ct, ρ) L := rfl
@[simp] theorem thenS_ex {e : W} : thenS C xs Q E (.ex e, ρ) L = Q (.ex e, ρ) L := rfl
@[simp] theorem wp_ss_nil : wp (exSs C [] ρ) L Q E = Q (.nx, ρ) L := rfl
@[simp] theorem wp_ss_cons {x : Sm} : wp (exSs C (x :: xs) ρ) L Q E = wp (exS C x ρ) L (thenS C xs Q E) E := by
  simp only [exSs, wp_bnd]
  congr 1; funext r L1
  obtain ⟨f, ρ1⟩ := r
  cases f <;> rfl
@[simp] theorem wp_asg {t : Tgt} {x : Ex} : wp (exS C (.asg t x) ρ) L Q E = wp (evE C ρ x) L (fun w L1 => wp (asgT C t w ρ) L1 (fun ρ1 L2 => Q (.nx, ρ1) L2) (fun e L2 => Q (.ex e, ρ) L2)) (fun e L1 => Q (.ex e, ρ) L1) := by simp only [exS, wp_sx, wp_ret]
@[simp] theorem wp_aug {i : Nat} {op : BOp} {x : Ex} : wp (exS C (.aug i op x) ρ) L Q E = (match ρ[i]? with
    | some (some v) => wp (evE C ρ x) L (fun w L1 => wp (iop op v w) L1 (fun z L2 => Q (.nx, ρ.set i (some z)) L2) (fun e L2 => Q (.ex e, ρ) L2)) (fun e L1 => Q (.ex e, ρ) L1)
    | _ => False) := by
  simp only [exS]
  cases ρ[i]? with
  | none => rfl
  | some o =>
    cases o with
    | none => rfl
    | some v => simp only [wp_sx, wp_ret]
@[simp] theorem wp_augf {o : Ex} {f : Nat} {op : BOp} {x : Ex} : wp (exS C (.augf o f op x) ρ) L Q E = wp (evE C ρ o) L (fun ov L1 => wp (fldOf C ov f) L1 (fun v L2 => wp (evE C ρ x) L2 (fun w L3 => wp (iop op v w) L3 (fun z L4 => wp (setFld C ov z f) L4 (fun _ L5 => Q (.nx, ρ) L5) (fun e L5 => Q (.ex e, ρ) L5)) (fun e L4 => Q (.ex e, ρ) L4)) (fun e L3 => Q (.ex e, ρ) L3)) (fun e L2 => Q (.ex e, ρ) L2)) (fun e L1 => Q (.ex e, ρ) L1) := by simp only [exS, wp_sx, wp_ret]
@[simp] theorem wp_iaddI {i j : Int} {Q : W → Hh → Prop} {E : W → Hh → Prop} : wp (iop .add (.int i) (.int j)) L Q E = Q (.int (i + j)) L := rfl
@[simp] theorem wp_isubI {i j : Int} {Q : W → Hh → Prop} {E : W → Hh → Prop} : wp (iop .sub (.int i) (.int j)) L Q E = Q (.int (i - j)) L := rfl
@[simp] theorem wp_exp {x : Ex} : wp (exS C (.exp x) ρ) L Q E = wp (evE C ρ x) L (fun _ L1 => Q (.nx, ρ) L1) (fun e L1 => Q (.ex e, ρ) L1) := by simp only [exS, wp_sx, wp_ret]
@[simp] theorem wp_ifs {t : Tx} {a b : List Sm} : wp (exS C (.ifs t a b) ρ) L Q E = wp (evT C ρ t) L (fun k L1 => if k = true then wp (exSs C a ρ) L1 Q E else wp (exSs C b ρ) L1 Q E) (fun e L1 => Q (.ex e, ρ) L1) := by simp only [exS, wp_sx, wp_ite]
@[simp] theorem wp_rtn {x : Ex} : wp (exS C (.rtn x) ρ) L Q E = wp (evE C ρ x) L (fun w L1 => Q (.rt w, ρ) L1) (fun e L1 => Q (.ex e, ρ) L1) := by simp only [exS, wp_sx, wp_ret]
@[simp] theorem wp_rtnN : wp (exS C .rtnN ρ) L Q E = Q (.rt .non, ρ) L := rfl
@[simp] theorem wp_pas : wp (exS C .pas ρ) L Q E = Q (.nx, ρ) L := rfl
@[simp] theorem wp_brk : wp (exS C .brk ρ) L Q E = Q (.bk, ρ) L := rfl
@[simp] theorem wp_cnt : wp (exS C .cnt ρ) L Q E = Q (.ct, ρ) L := rfl
@[simp] theorem wp_end_rt {w : W} {Q : W → Hh → Prop} : wp (endOf (.rt w, ρ)) L Q E = Q w L := rfl
@[simp] theorem wp_end_nx {Q : W → Hh → Prop} : wp (endOf (.nx, ρ)) L Q E = Q .non L := rfl
@[simp] theorem wp_end_ex {e : W} {Q : W → Hh → Prop} : wp (endOf (.ex e, ρ)) L Q E = E e L := rfl
end
def fHand : Df := ⟨4, [
  .asg (.nm 1) (.lc [(("_law_cell" : PySem.Str), 2)] (.nm 2) (.e (.slc (.var 0) none (some (.ki 63)))) [] (.bi .intf [(.var 2)])),
  .asg (.nm 3) (.bin .add (.ki 5602) (.bin .mul (.ki 71) (.bi .len [(.var 1)]))),
  .fors (.nm 2) (.e (.var 1)) [
    .asg (.nm 3) (.bin .mod (.bi .intf [(.bin .add (.bin .mul (.var 3) (.ki 6971)) (.var 2))]) (.ki 2147483587))],
  .rtn (.lst [(.var 1), (.ki 0), (.ki 0), (.var 3)])]⟩
def fPick : Df := ⟨6, [
  .ifs (.bv (.cmp .lt (.sub (.var 0) (.ki 2)) (.ki 2))) [
    .asg (.sub (.var 0) (.ki 1)) (.bin .add (.sub (.var 0) (.ki 1)) (.ki 1)),
    .asg (.nm 2) (.bin .add (.sub (.var 0) (.ki 3)) (.bin .mul (.sub (.var 0) (.ki 1)) (.ki 9337))),
    .ifs (.bv (.cmp .le (.sub (.var 0) (.ki 1)) (.bi .len [(.sub (.var 0) (.ki 0))]))) [
      .asg (.nm 2) (.sub (.sub (.var 0) (.ki 0)) (.bin .sub (.sub (.var 0) (.ki 1)) (.ki 1)))] [],
    .ifs (.any [(.bv (.cmp .gt (.sub (.var 0) (.ki 1)) (.bi .len [(.sub (.var 0) (.ki 0))]))), (.bv (.cmp .lt (.var 2) (.bin .pow (.ki 10) (.ki 18))))]) [
      .asg (.nm 3) (.bin .mod (.bi .intf [(.bin .add (.bin .add (.bin .mul (.var 2) (.ki 39373)) (.bin .mul (.sub (.var 0) (.ki 1)) (.ki 40692))) (.sub (.var 0) (.ki 3)))]) (.ki 2147483647)),
      .asg (.nm 4) (.bin .mod (.bi .intf [(.bin .add (.bin .mul (.var 3) (.var 3)) (.bin .mul (.sub (.var 0) (.ki 1)) (.ki 52774)))]) (.ki 998244353)),
      .rtn (.bin .mod (.bin .fdiv (.bin .mod (.bi .intf [(.bin .add (.bin .mul (.var 4) (.ki 48271)) (.var 3))]) (.ki 2147483629)) (.ki 13)) (.var 1))] [],
    .asg (.sub (.var 0) (.ki 2)) (.var 2)] [],
  .asg (.nm 5) (.bin .mod (.bi .intf [(.sub (.var 0) (.ki 2))]) (.var 1)),
  .asg (.sub (.var 0) (.ki 2)) (.bin .fdiv (.bi .intf [(.sub (.var 0) (.ki 2))]) (.var 1)),
  .rtn (.var 5)]⟩
def fOf (t : Nat) : Df := ⟨2, [
  .rtn (.sub (.var 1) (.call t [(.var 0), (.bi .len [(.var 1)])] []))]⟩
/-- a hand stands at l: its cells' list at c -/
structure HandAt (L : Hh) (l c : Nat) (is : List Int) : Prop where
  hd : ∃ i z mk : Int, L[l]? = some (.lst [.ref c, .int i, .int z, .int mk]) ∧ 0 ≤ i
  cl : L[c]? = some (.lst (is.map W.int))
  ne : c ≠ l
theorem HandAt.same {L L' : Hh} {l c : Nat} {is : List Int} (h : HandAt L l c is) (k : ∀ (j : Nat) (o : O), L[j]? = some o → L'[j]? = some o) : HandAt L' l c is := by
  obtain ⟨⟨i, z, mk, h1, h2⟩, h3, h4⟩ := h
  exact ⟨⟨i, z, mk, k _ _ h1, h2⟩, k _ _ h3, h4⟩
theorem atI_ofNat {α : Type} (xs : List α) (k : Nat) (h : k < xs.length) : L2.atI xs (k : Int) = xs[k]? := by
  unfold L2.atI L2.ixN
  simp [h]
theorem pick_ok {l c : Nat} {is : List Int} {m : Int} {Q : W → Hh → Prop} {E : W → Hh → Prop} (h : HandAt L l c is) (hm : 0 < m) (hm2 : m < 1073741824)
    (hq : ∀ r L', 0 ≤ r → r < m → HandAt L' l c is → Same1 l L L' → Q (.int r) L') : wp (runD C fPick [.ref l, .int m]) L Q E := by
  obtain ⟨⟨i, z, mk, hl, hi⟩, hc, hne⟩ := h
  refine wp_runD (by simp [fPick]) ?_
  have e1 : ∀ o : O, (L.set l o)[l]? = some o := fun o => get_set hl
  have e2 : ∀ o : O, (L.set l o)[c]? = some (.lst (is.map W.int)) := fun o => by rw [List.getElem?_set_ne (Ne.symm hne)]; exact hc
  have fin : ∀ (r i' z' mk' : Int) (L' : Hh), Same1 l L L' → 0 ≤ i' → L'[l]? = some (.lst [.ref c, .int i', .int z', .int mk']) → Q (.int (r % m)) L' := fun r i' z' mk' L' sm hi' hl' =>
    hq _ _ (Int.emod_nonneg _ (by omega)) (Int.emod_lt_of_pos _ hm) ⟨⟨i', z', mk', hl', hi'⟩, by rw [sm.ne c hne]; exact hc, hne⟩ sm
  have sm0 := Same1.refl l L
  have i1 : 0 ≤ i + 1 := by omega
  by_cases hz : z < 2
  · by_cases hlen : i + 1 ≤ (is.length : Int)
    · have a1 : i < (is.length : Int) := by omega
      have a2 : ¬ ((is.length : Int) < i + 1) := by omega
      have a3 : i.toNat < is.length := by omega
      simp [fPick, hl, hc, itemsOf, L2.atI, L2.ixN, e1, e2, smallI, hz, hlen, hi, a1, a2, a3, hm, hm2, List.set_set]
      split
      · exact ⟨⟨by omega, by omega⟩, fin _ _ _ _ _ (sm0.set _) i1 (e1 _)⟩
      · exact fin _ _ _ _ _ (sm0.set _) i1 (e1 _)
    · have a2 : (is.length : Int) < i + 1 := by omega
      simp [fPick, hl, hc, itemsOf, L2.atI, L2.ixN, e1, e2, smallI, hz, hlen, hi, a2, hm, hm2]
      exact ⟨⟨by omega, by omega⟩, fin _ _ _ _ _ (sm0.set _) i1 (e1 _)⟩
  · simp [fPick, hl, hc, itemsOf, L2.atI, L2.ixN, e1, e2, smallI, hz, hi, hm, hm2]
    exact fin _ _ _ _ _ (sm0.set _) hi (e1 _)
end
end Dx

set_option maxRecDepth 100000
set_option maxHeartbeats 4000000
/-! Dx11: loops by invariants; the hand. -/
namespace Dx
open PySem
section
variable {C : Env} {L : Hh} {ρ : Fr}
@[simp] theorem wp_ie {x : Ex} {Q : Src → Hh → Prop} {E : W → Hh → Prop} : wp (evI C ρ (.e x)) L Q E = wp (evE C ρ x) L (fun w L1 => match w with
    | .ref l => (match itemsOf L1 (.ref l) with
      | some _ => Q (.seq l) L1
      | none => False)
    | .tup ws => Q (.vals ws) L1
    | .str x => Q (.vals (signs x)) L1
    | _ => False) E := by
  simp only [evI, wp_bnd]
  congr 1; funext w L1
  cases w <;> try rfl
  rename_i l
  show wp (match itemsOf L1 (.ref l) with
      | some _ => ret (.seq l)
      | none => fail) L1 Q E = _
  dsimp only
  cases itemsOf L1 (.ref l) <;> rfl
@[simp] theorem wp_irng {xs : List Ex} {Q : Src → Hh → Prop} {E : W → Hh → Prop} : wp (evI C ρ (.rng xs)) L Q E = wp (evEs C ρ xs) L (fun ws L1 => match ws with
    | [.int n] => if smallR n = true then Q (.rng 0 n.toNat) L1 else False
    | [.int a, .int b] => if (smallR a && smallR b) = true then Q (.rng a (b - a).toNat) L1 else False
    | _ => False) E := by
  simp only [evI, wp_bnd]
  congr 1; funext ws L1
  rcases ws with _ | ⟨a, _ | ⟨b, _ | ⟨d, r⟩⟩⟩
  · rfl
  · cases a <;> first | rfl | simp only [wp_ite, wp_ret, wp_fail]
  · cases a <;> cases b <;> first | rfl | simp only [wp_ite, wp_ret, wp_fail]
  · cases a <;> cases b <;> rfl
@[simp] theorem wp_ienum {x : Ex} {Q : Src → Hh → Prop} {E : W → Hh → Prop} : wp (evI C ρ (.enum x)) L Q E = wp (evE C ρ x) L (fun w L1 => match w with
    | .ref l => (match itemsOf L1 (.ref l) with
      | some _ => Q (.enum l) L1
      | none => False)
    | _ => False) E := by
  simp only [evI, wp_bnd]
  congr 1; funext w L1
  cases w <;> try rfl
  rename_i l
  show wp (match itemsOf L1 (.ref l) with
      | some _ => ret (.enum l)
      | none => fail) L1 Q E = _
  dsimp only
  cases itemsOf L1 (.ref l) <;> rfl
@[simp] theorem wp_izip {x y : Ex} {Q : Src → Hh → Prop} {E : W → Hh → Prop} : wp (evI C ρ (.zip x y)) L Q E = wp (evE C ρ x) L (fun w L1 => wp (evE C ρ y) L1 (fun v L2 => match w, v with
    | .ref a, .ref b => (match itemsOf L2 (.ref a), itemsOf L2 (.ref b) with
      | some _, some _ => Q (.zipL a b) L2
      | _, _ => False)
    | .tup xs, .tup ys => Q (.zipT xs ys) L2
    | _, _ => False) E) E := by
  simp only [evI, wp_bnd]
  congr 1; funext w L1
  congr 1; funext v L2
  cases w with
  | ref a =>
    cases v with
    | ref b =>
      show wp (match itemsOf L2 (.ref a), itemsOf L2 (.ref b) with
        | some _, some _ => ret (.zipL a b)
        | _, _ => fail) L2 Q E = _
      dsimp only
      cases itemsOf L2 (.ref a) <;> cases itemsOf L2 (.ref b) <;> rfl
    | _ => rfl
  | tup xs => cases v <;> rfl
  | _ => cases v <;> rfl
/-- a comprehension's turn -/
def turnC (C : Env) (ρ : Fr) (own : List (Str × Nat)) (t : Tgt) (cs : List Tx) (x : Ex) : W → M (Option W) := fun w => bnd (asgT C t w (wipeF ρ (own.map (·.2)))) fun ρ1 => bnd (tsAnd C ρ1 cs) fun b => if b = true then bnd (evE C ρ1 x) fun v => ret (some v) else ret none
theorem wp_turnC {own : List (Str × Nat)} {t : Tgt} {cs : List Tx} {x : Ex} {w : W} {Q : Option W → Hh → Prop} {E : W → Hh → Prop} : wp (turnC C ρ own t cs x w) L Q E = wp (asgT C t w (wipeF ρ (own.map (·.2)))) L (fun ρ1 L1 => wp (tsAnd C ρ1 cs) L1 (fun b L2 => if b = true then wp (evE C ρ1 x) L2 (fun v L3 => Q (some v) L3) E else Q none L2) E) E := by
  simp only [turnC, wp_bnd, wp_ite, wp_ret]
@[simp] theorem wp_lc {own : List (Str × Nat)} {t : Tgt} {it : It} {cs : List Tx} {x : Ex} {Q : W → Hh → Prop} {E : W → Hh → Prop} : wp (evE C ρ (.lc own t it cs x)) L Q E = wp (evI C ρ it) L (fun s L1 => wp (loopC s (turnC C ρ own t cs x) fuel 0 []) L1 (fun ws L2 => Q (.ref L2.length) (L2 ++ [.lst ws])) fun _ _ => False) E := by
  simp only [evE, wp_bnd, wp_noX]
  rfl
theorem loopC_inv {s : Src} {f : W → M (Option W)} {n : Nat} {Q : List W → Hh → Prop} {E : W → Hh → Prop} (Inv : Nat → List W → Hh → Prop)
    (hs : ∀ i acc L, i < n → Inv i acc L → ∃ w, srcAt L i s = some (some w) ∧ wp (f w) L (fun r L' => match r with
      | none => Inv (i + 1) acc L'
      | some v => acc.length < sizeLine ∧ Inv (i + 1) (acc ++ [v]) L') E)
    (he : ∀ acc L, Inv n acc L → srcAt L n s = some none ∧ Q acc L) : ∀ (N i : Nat) (acc : List W) (L : Hh), n - i < N → i ≤ n → Inv i acc L → wp (loopC s f N i acc) L Q E
  | 0, i, acc, L, h, _, _ => absurd h (Nat.not_lt_zero _)
  | N + 1, i, acc, L, h, hi, q => by
    show wp (match srcAt L i s with
    | none => fail
    | some none => ret acc
    | some (some w) => bnd (f w) fun r => match r with
      | none => loopC s f N (i + 1) acc
      | some v => if decide (acc.length < sizeLine) then loopC s f N (i + 1) (acc ++ [v]) else fail) L Q E
    by_cases hn : i < n
    · obtain ⟨w, e, q2⟩ := hs i acc L hn q
      rw [e]
      dsimp only
      rw [wp_bnd]
      refine wp_mono q2 (fun r L' z => ?_) fun _ _ z => z
      cases r with
      | none => exact loopC_inv Inv hs he N (i + 1) acc L' (by omega) hn z
      | some v =>
        dsimp only
        rw [if_pos (decide_eq_true z.1)]
        exact loopC_inv Inv hs he N (i + 1) _ L' (by omega) hn z.2
    · obtain rfl : i = n := by omega
      obtain ⟨e, q2⟩ := he acc L q
      rw [e]
      exact q2
theorem loopF_inv {s : Src} {g : W → Fr → M Fr} {b : Fr → M (Fl × Fr)} {n : Nat} {Q : Fl × Fr → Hh → Prop} {E : W → Hh → Prop} (Inv : Nat → Fr → Hh → Prop)
    (hs : ∀ i ρ L, i < n → Inv i ρ L → ∃ w, srcAt L i s = some (some w) ∧ wp (g w ρ) L (fun ρ1 L1 => wp (b ρ1) L1 (fun r L2 => match r.1 with
      | .nx => Inv (i + 1) r.2 L2
      | .ct => Inv (i + 1) r.2 L2
      | .bk => Q (.nx, r.2) L2
      | .rt w => Q (.rt w, r.2) L2
      | .ex e => Q (.ex e, r.2) L2) E) (fun e L1 => Q (.ex e, ρ) L1))
    (he : ∀ ρ L, Inv n ρ L → srcAt L n s = some none ∧ Q (.nx, ρ) L) : ∀ (N i : Nat) (ρ : Fr) (L : Hh), n - i < N → i ≤ n → Inv i ρ L → wp (loopF s g b N i ρ) L Q E
  | 0, i, ρ, L, h, _, _ => absurd h (Nat.not_lt_zero _)
  | N + 1, i, ρ, L, h, hi, q => by
    show wp (match srcAt L i s with
    | none => fail
    | some none => ret (.nx, ρ)
    | some (some w) => sx ρ (g w ρ) fun ρ1 => bnd (b ρ1) fun r => (match r.1 with
      | .nx => loopF s g b N (i + 1) r.2
      | .ct => loopF s g b N (i + 1) r.2
      | .bk => ret (.nx, r.2)
      | .rt w => ret (.rt w, r.2)
      | .ex e => ret (.ex e, r.2))) L Q E
    by_cases hn : i < n
    · obtain ⟨w, e, q2⟩ := hs i ρ L hn q
      rw [e]
      dsimp only
      rw [wp_sx]
      refine wp_mono q2 (fun ρ1 L1 z => ?_) fun _ _ z => z
      rw [wp_bnd]
      refine wp_mono z (fun r L2 z => ?_) fun _ _ z => z
      obtain ⟨fl, ρ2⟩ := r
      cases fl with
      | nx => exact loopF_inv Inv hs he N (i + 1) ρ2 L2 (by omega) hn z
      | ct => exact loopF_inv Inv hs he N (i + 1) ρ2 L2 (by omega) hn z
      | bk => exact z
      | rt w => exact z
      | ex e => exact z
    · obtain rfl : i = n := by omega
      obtain ⟨e, q2⟩ := he ρ L q
      rw [e]
      exact q2
@[simp] theorem wp_fors {t : Tgt} {it : It} {b : List Sm} {Q : Fl × Fr → Hh → Prop} {E : W → Hh → Prop} : wp (exS C (.fors t it b) ρ) L Q E = wp (evI C ρ it) L (fun s L1 => wp (loopF s (fun w ρ => asgT C t w ρ) (fun ρ => exSs C b ρ) fuel 0 ρ) L1 Q E) (fun e L1 => Q (.ex e, ρ) L1) := by simp only [exS, wp_sx]
theorem srcAt_seq {l i : Nat} {ws : List W} (h : L[l]? = some (.lst ws)) : srcAt L i (.seq l) = some ws[i]? := by
  show (itemsOf L (.ref l)).map _ = _
  rw [itemsOf_lst h]
  rfl
theorem lt_fuel {n : Nat} (h : n < 1099511627776) : n - 0 < fuel := by unfold fuel; omega
theorem hand_ok {ns : List Int} {Q : W → Hh → Prop} {E : W → Hh → Prop} (hq : ∀ (l c : Nat) (is : List Int) (L' : Hh), HandAt L' l c is → (∀ (j : Nat) (o : O), L[j]? = some o → L'[j]? = some o) → Q (.ref l) L') : wp (runD C fHand [.scr (ns.map W.int)]) L Q E := by
  refine wp_runD (by simp [fHand]) ?_
  obtain ⟨is, hl, e⟩ : ∃ is : List Int, is.length ≤ 63 ∧ cutL (ns.map W.int) none (some 63) = is.map W.int := by
    refine ⟨cutL ns none (some 63), ?_, ?_⟩
    · unfold cutL cutI
      rw [List.length_take]
      have : HT.sIx ns.length ns.length (some 63) ≤ 63 := by unfold HT.sIx; simp; omega
      omega
    · unfold cutL cutI
      simp [List.map_drop, List.map_take]
  have sc : ∀ (Q : W → Hh → Prop) (E : W → Hh → Prop), wp (sliceOf (.scr (ns.map W.int)) none (some 63)) L Q E = Q (.ref L.length) (L ++ [.lst (is.map W.int)]) := fun Q E => by
    show wp (alloc (.lst (cutL (ns.map W.int) none (some 63)))) L Q E = _
    rw [e]
    rfl
  have g1 : (L ++ [O.lst (is.map W.int)])[L.length]? = some (.lst (is.map W.int)) := get_new
  simp [fHand, sc, itemsOf_lst g1]
  have szl : (64 : Nat) < sizeLine := by rw [sizeLine_eq]; omega
  refine loopC_inv (n := is.length) (fun i acc L' => L' = L ++ [.lst (is.map W.int)] ∧ acc = (is.take i).map W.int) (fun i acc L' hi ⟨h1, h2⟩ => ?_) (fun acc L' ⟨h1, h2⟩ => ?_) _ 0 [] _ (lt_fuel (by omega)) (Nat.zero_le _) ⟨rfl, rfl⟩
  · subst h1 h2
    refine ⟨.int is[i], by rw [srcAt_seq g1]; simp [hi], ?_⟩
    simp [wp_turnC, wipeF]
    refine ⟨by omega, ?_⟩
    rw [List.take_add_one]
    simp [hi]
  · subst h1 h2
    refine ⟨by rw [srcAt_seq g1]; simp, ?_⟩
    rw [List.take_of_length_le (Nat.le_refl _)]
    have g2 : (L ++ [O.lst (is.map W.int), O.lst (is.map W.int)])[L.length + 1]? = some (.lst (is.map W.int)) := by
      rw [List.getElem?_append_right (by simp)]
      simp
    simp [itemsOf, smallI]
    refine loopF_inv (n := is.length) (fun i ρ L' => L' = L ++ [O.lst (is.map W.int), O.lst (is.map W.int)] ∧ ∃ (a : Option W) (mk : Int), ρ = [some (W.scr (ns.map W.int)), some (W.ref (L.length + 1)), a, some (W.int mk)]) (fun i ρ L' hi ⟨h1, a, mk, h2⟩ => ?_) (fun ρ L' ⟨h1, a, mk, h2⟩ => ?_) _ 0 _ _ (lt_fuel (by omega)) (Nat.zero_le _) ⟨rfl, _, _, rfl⟩
    · subst h1 h2
      refine ⟨.int is[i], by rw [srcAt_seq g2]; simp [hi], ?_⟩
      simp [smallI]
    · subst h1 h2
      refine ⟨by rw [srcAt_seq g2]; simp, ?_⟩
      have lo4 : lenOk 4 = true := by decide
      simp [lo4]
      refine hq _ (L.length + 1) is _ ⟨⟨0, 0, mk, ?_, by omega⟩, ?_, by omega⟩ fun j o e => ?_
      · rw [List.getElem?_append_right (by simp)]
        simp
      · rw [List.getElem?_append_right (by simp)]
        simp
      · rw [List.getElem?_append_left (lt_of_get e)]
        exact e
end
end Dx

set_option maxRecDepth 100000
set_option maxHeartbeats 4000000
/-! Dx12: drawing an item; joining signs. -/
namespace Dx
open PySem
section
variable {C C' : Env} {L : Hh}
theorem of_txt {t l c : Nat} {is : List Int} {x : Txt} {Q : W → Hh → Prop} {E : W → Hh → Prop} (hC : ∀ as, C.call t as = runD C' fPick (arrW as [.ix 0, .ix 1])) (h : HandAt L l c is) (h0 : 0 < x.length) (h1 : x.length < 1000)
    (hq : ∀ (s : Nat) (L' : Hh), s ∈ x → HandAt L' l c is → Same1 l L L' → Q (.str [s]) L') : wp (runD C (fOf t) [.ref l, .str x]) L Q E := by
  refine wp_runD (by simp [fOf]) ?_
  have lo : lenOk x.length = true := by unfold lenOk; rw [decide_eq_true_eq, sizeLine_eq]; omega
  simp [fOf, lo, hC, arrW]
  refine pick_ok h (by omega) (by omega) fun r L' r0 r1 h' sm => ?_
  obtain ⟨k, rfl⟩ := Int.eq_ofNat_of_zero_le r0
  have hk : k < x.length := by omega
  simp [lo, atI_ofNat x k hk, List.getElem?_eq_getElem hk]
  exact hq _ _ (List.getElem_mem hk) h' sm
theorem of_lst {t l c a : Nat} {is : List Int} {ws : List W} {Q : W → Hh → Prop} {E : W → Hh → Prop} (hC : ∀ as, C.call t as = runD C' fPick (arrW as [.ix 0, .ix 1])) (h : HandAt L l c is) (ha : L[a]? = some (.lst ws)) (hl : a ≠ l) (h0 : 0 < ws.length) (h1 : ws.length < 1000)
    (hq : ∀ (w : W) (L' : Hh), w ∈ ws → HandAt L' l c is → Same1 l L L' → Q w L') : wp (runD C (fOf t) [.ref l, .ref a]) L Q E := by
  refine wp_runD (by simp [fOf]) ?_
  simp [fOf, itemsOf_lst ha, ha, hC, arrW]
  refine pick_ok h (by omega) (by omega) fun r L' r0 r1 h' sm => ?_
  obtain ⟨k, rfl⟩ := Int.eq_ofNat_of_zero_le r0
  have hk : k < ws.length := by omega
  have ha' : L'[a]? = some (.lst ws) := by rw [sm.ne a hl]; exact ha
  simp [itemsOf_lst ha', ha', atI_ofNat ws k hk, List.getElem?_eq_getElem hk]
  exact hq _ _ (List.getElem_mem hk) h' sm
theorem Same1.keep {l : Nat} {L L' : Hh} (a : Same1 l L L') {j : Nat} {o : O} (h : L[j]? = some o) (hj : j ≠ l) : L'[j]? = some o := by rw [a.ne j hj]; exact h
/-- signs, joined -/
theorem join_signs : ∀ cs : List Nat, joinT [] (cs.map fun c => [c]) = cs
  | [] => rfl
  | [c] => rfl
  | c :: d :: cs => by
    show [c] ++ ([] ++ joinT [] ([d] :: cs.map fun c => [c])) = _
    have := join_signs (d :: cs)
    rw [show ([d] :: cs.map fun c => [c]) = (d :: cs).map (fun c => [c]) from rfl, this]
    rfl
theorem mapM_txt (ts : List Txt) : (ts.map W.str).mapM txtOf = some ts := by
  induction ts with
  | nil => rfl
  | cons t ts ih => rw [List.map_cons, List.mapM_cons, ih]; rfl
theorem sum_len (cs : List Nat) : ((cs.map fun c => [c]).map List.length).sum = cs.length := by
  induction cs with
  | nil => rfl
  | cons c cs ih => simp [ih] at *; omega
theorem wp_joinL {l : Nat} {ts : List Txt} {Q : W → Hh → Prop} {E : W → Hh → Prop} (h : L[l]? = some (.lst (ts.map W.str))) {sep : Txt} (hz : (ts.map List.length).sum + ts.length * sep.length ≤ 16777216) : wp (callM .join (.str sep) [.ref l]) L Q E = Q (.str (joinT sep ts)) L := by
  show wp (match (itemsOf L (.ref l)).bind fun ws => ws.mapM txtOf with
    | some ts => if decide ((ts.map List.length).sum + ts.length * sep.length ≤ 16777216) then ret (.str (joinT sep ts)) else fail
    | none => fail) L Q E = _
  rw [itemsOf_lst h, Option.bind_some, mapM_txt]
  simp only [wp_ite, decide_eq_true_eq, hz, if_true, wp_ret]
theorem insT_perm' (x : Txt) (xs : List Txt) : (insT x xs).Perm (x :: xs) := insT_perm x xs
/-- sorted signs are signs -/
theorem sort_signs (cs : List Nat) : ∃ ds : List Nat, ds.Perm cs ∧ sortT (cs.map fun c => [c]) = ds.map fun c => [c] := by
  have p := sortT_perm (cs.map fun c => [c])
  refine ⟨(sortT (cs.map fun c => [c])).map fun t => t.headD 0, ?_, ?_⟩
  · have q := p.map fun t : Txt => t.headD 0
    rw [List.map_map] at q
    have e : (fun t : Txt => t.headD 0) ∘ (fun c : Nat => [c]) = id := by funext c; rfl
    rw [e, List.map_id] at q
    exact q
  · rw [List.map_map]
    refine (List.map_id _).symm.trans (List.map_congr_left fun t ht => ?_)
    obtain ⟨c, _, rfl⟩ := List.mem_map.mp (p.mem_iff.mp ht)
    rfl
/-! ### objects, while -/
@[simp] theorem wp_fldR {l f : Nat} {Q : W → Hh → Prop} {E : W → Hh → Prop} : wp (fldOf C (.ref l) f) L Q E = (match L[l]? with
    | some (.ins c fs) => if C.cf c f = true then (match getFld fs f with
      | some w => Q w L
      | none => False) else False
    | _ => False) := by
  show wp (match L[l]? with
    | some (.ins c fs) => if C.cf c f then (match getFld fs f with
      | some w => ret w
      | none => fail) else fail
    | _ => fail) L Q E = _
  cases L[l]? with
  | none => rfl
  | some o =>
    cases o with
    | ins c fs =>
      dsimp only
      cases C.cf c f with
      | false => rfl
      | true =>
        cases getFld fs f <;> rfl
    | _ => rfl
@[simp] theorem wp_setR {l f : Nat} {w : W} {Q : Unit → Hh → Prop} {E : W → Hh → Prop} : wp (setFld C (.ref l) w f) L Q E = (match L[l]? with
    | some (.ins c fs) => if C.cf c f = true ∧ fs.length < 900 then Q () (L.set l (.ins c (putFld f w fs))) else False
    | _ => False) := by
  show wp (match L[l]? with
    | some (.ins c fs) => if C.cf c f && decide (fs.length < 900) then put l (.ins c (putFld f w fs)) else fail
    | _ => fail) L Q E = _
  cases L[l]? with
  | none => rfl
  | some o =>
    cases o with
    | ins c fs =>
      dsimp only
      simp only [wp_ite, wp_fail, Bool.and_eq_true, decide_eq_true_eq]
      rfl
    | _ => rfl
@[simp] theorem wp_whl {c : Tx} {b : List Sm} {ρ : Fr} {Q : Fl × Fr → Hh → Prop} {E : W → Hh → Prop} : wp (exS C (.whl c b) ρ) L Q E = wp (loopW (fun ρ => evT C ρ c) (fun ρ => exSs C b ρ) fuel ρ) L Q E := by simp only [exS]
theorem loopW_step {c : Fr → M Bool} {b : Fr → M (Fl × Fr)} {N : Nat} {ρ : Fr} {Q : Fl × Fr → Hh → Prop} {E : W → Hh → Prop} : wp (loopW c b (N + 1) ρ) L Q E = wp (c ρ) L (fun t L1 => if t = true then wp (b ρ) L1 (fun r L2 => match r.1 with
      | .nx => wp (loopW c b N r.2) L2 Q E
      | .ct => wp (loopW c b N r.2) L2 Q E
      | .bk => Q (.nx, r.2) L2
      | .rt w => Q (.rt w, r.2) L2
      | .ex e => Q (.ex e, r.2) L2) E else Q (.nx, ρ) L1) (fun e L1 => Q (.ex e, ρ) L1) := by
  rw [loopW, wp_sx]
  congr 1; funext t L1
  simp only [wp_ite, wp_bnd, wp_ret]
  congr 1
  congr 1; funext r L2
  obtain ⟨f, ρ1⟩ := r
  cases f <;> rfl
/-- nothing but l differs; more may be there -/
def Keep (l : Nat) (L L' : Hh) : Prop := ∀ (j : Nat) (o : O), j ≠ l → L[j]? = some o → L'[j]? = some o
theorem Keep.refl (l : Nat) (L : Hh) : Keep l L L := fun _ _ _ e => e
theorem Keep.trans {l : Nat} {L L1 L2 : Hh} (a : Keep l L L1) (b : Keep l L1 L2) : Keep l L L2 := fun j o h e => b j o h (a j o h e)
theorem Keep.set {l : Nat} {L : Hh} (o : O) : Keep l L (L.set l o) := fun j o h e => by rw [List.getElem?_set_ne (Ne.symm h)]; exact e
theorem Keep.app {l : Nat} {L : Hh} (os : List O) : Keep l L (L ++ os) := fun j o _ e => by rw [List.getElem?_append_left (lt_of_get e)]; exact e
/-! ### scalars compared -/
theorem eqv_str (a b : Txt) : PyData.eqv (.str ⟨a.toArray⟩) (.str ⟨b.toArray⟩) = (a == b) := by
  show ((⟨a.toArray⟩ : Str) == ⟨b.toArray⟩) = _
  exact SX.S_beq a b
/-- signs that a text can have -/
def okT (t : Txt) : Bool := t.all fun c => decide (c < 1114112)
theorem shaped_str {t : Txt} (h : okT t = true) : SeqAt.shaped (.str ⟨t.toArray⟩) = true := by
  have e : PyData.strOk ⟨t.toArray⟩ = true := by
    unfold PyData.strOk
    simp only [okT] at h
    simpa using h
  simp [SeqAt.shaped, PyData.canLay0, PyData.depth, e]
theorem shaped_int (i : Int) : SeqAt.shaped (.int i) = true := by simp [SeqAt.shaped, PyData.canLay0, PyData.depth]
section
variable {Q : W → Hh → Prop} {E : W → Hh → Prop} {a b : Txt} {i j : Int} {c : Nat}
theorem shaped_iff {t : Txt} : SeqAt.shaped (.str ⟨t.toArray⟩) = okT t := by
  by_cases h : okT t = true
  · rw [shaped_str h, h]
  · have e : PyData.strOk ⟨t.toArray⟩ = false := by
      simp only [okT, Bool.not_eq_true] at h
      unfold PyData.strOk
      simpa using h
    simp [SeqAt.shaped, PyData.canLay0, PyData.depth, e, h]
@[simp] theorem wp_eqS : wp (cmpop .eq (.str a) (.str b)) L Q E = if (okT a && okT b) = true then Q (.bl (a == b)) L else False := by
  rw [wp_eq]
  simp only [asData, shaped_iff, eqv_str]
@[simp] theorem wp_neS : wp (cmpop .ne (.str a) (.str b)) L Q E = if (okT a && okT b) = true then Q (.bl (!(a == b))) L else False := by
  rw [wp_neq]
  simp only [asData, shaped_iff, eqv_str]
@[simp] theorem okT_nil : okT [] = true := rfl
@[simp] theorem okT_cons {c : Nat} {t : Txt} : okT (c :: t) = (decide (c < 1114112) && okT t) := rfl
@[simp] theorem wp_eqI : wp (cmpop .eq (.int i) (.int j)) L Q E = Q (.bl (decide (i = j))) L := by
  rw [wp_eq]
  have : PyData.eqv (.int i) (.int j) = decide (i = j) := by
    simp only [PyData.eqv]
    by_cases h : i = j <;> simp [h]
  simp only [asData, shaped_int, Bool.and_self, if_true, this]
@[simp] theorem wp_neI : wp (cmpop .ne (.int i) (.int j)) L Q E = Q (.bl (!decide (i = j))) L := by
  rw [wp_neq]
  have : PyData.eqv (.int i) (.int j) = decide (i = j) := by
    simp only [PyData.eqv]
    by_cases h : i = j <;> simp [h]
  simp only [asData, shaped_int, Bool.and_self, if_true, this]
@[simp] theorem wp_innS : wp (cmpop .inn (.str [c]) (.str b)) L Q E = Q (.bl (decide (c ∈ b))) L := rfl
@[simp] theorem wp_ninS : wp (cmpop .nin (.str [c]) (.str b)) L Q E = Q (.bl (!decide (c ∈ b))) L := rfl
@[simp] theorem wp_innT {x : W} {ws : List W} : wp (cmpop .inn x (.tup ws)) L Q E = if (flatW x && ws.all flatW) = true then Q (.bl (ws.any fun y => eqW y x)) L else False := by
  have e : cmpop .inn x (.tup ws) = inM id x (.tup ws) := by cases x <;> first | rfl | (rename_i t; rcases t with _ | ⟨_, _ | _⟩ <;> rfl)
  rw [e]
  show wp (match inW L x (.tup ws) with
    | some b => ret (.bl (id b))
    | none => fail) L Q E = _
  unfold inW
  dsimp only
  split
  · rename_i b e
    split at e
    · rename_i h; cases e; rw [if_pos h]; rfl
    · cases e
  · rename_i e
    split at e
    · cases e
    · rename_i h; rw [if_neg h]; rfl
end
end
end Dx

set_option maxRecDepth 100000
set_option maxHeartbeats 0
namespace Q
open PySem PySem.Spec PyProof.Rows L2 Dx
def top (i : Nat) : Stmt := PySem.Challenge.pw_lastkept_k14_texts_of_patterns.main.body.getD i (.Pass ⟨0, 0, 0, 0⟩)
def f_law : Df := ⟨11, [
  .asg (.nm 1) (.call 0 [(.var 0)] []),
  .asg (.nm 2) (.call 1 [(.var 1), (.ki 3)] []),
  .fors (.nm 3) (.rng [(.ki 6)]) [
    .asg (.nm 4) (.call 2 [(.var 1), (.var 2), (.ki 5)] []),
    .asg (.nm 5) (.call 3 [(.var 4), (.ki 0)] []),
    .asg (.nm 6) (.lst [(.call 4 [(.var 4)] []), (.call 5 [(.var 5)] []), (.call 6 [] [(.call 7 [(.var 1), (.var 4)] [])]), (.call 8 [] [(.call 5 [(.var 5)] [])])]),
    .ifs (.nt (.val (.call 9 [(.var 6), (.lst [(.var 5), (.var 4), (.var 4), (.var 5)])] []))) [
      .rtn (.kb false)] []],
  .asg (.tup [(.nm 7), (.nm 8), (.nm 9)]) (.tup [(.tup [(.ks [108, 101, 116, 116, 101, 114]), (.ks [97])]), (.tup [(.ks [108, 101, 116, 116, 101, 114]), (.ks [98])]), (.tup [(.ks [108, 101, 116, 116, 101, 114]), (.ks [99])])]),
  .asg (.nm 6) (.lst [(.call 5 [(.ks [97, 98, 99])] []), (.call 5 [(.ks [97, 124, 98, 38, 99])] []), (.call 5 [(.ks [33, 97, 98, 42, 124, 99])] []), (.call 5 [(.ks [33, 33, 97])] []), (.call 5 [(.ks [97, 63, 43])] []), (.call 5 [(.ks [97, 40, 98, 99, 41])] [])]),
  .asg (.nm 10) (.lst [(.tup [(.ks [106, 111, 105, 110]), (.tup [(.ks [106, 111, 105, 110]), (.var 7), (.var 8)]), (.var 9)]), (.tup [(.ks [101, 105, 116, 104, 101, 114]), (.var 7), (.tup [(.ks [98, 111, 116, 104]), (.var 8), (.var 9)])]), (.tup [(.ks [101, 105, 116, 104, 101, 114]), (.tup [(.ks [106, 111, 105, 110]), (.tup [(.ks [110, 111, 116]), (.var 7)]), (.tup [(.ks [115, 116, 97, 114]), (.var 8)])]), (.var 9)]), (.tup [(.ks [110, 111, 116]), (.tup [(.ks [110, 111, 116]), (.var 7)])]), (.tup [(.ks [112, 108, 117, 115]), (.tup [(.ks [109, 97, 121, 98, 101]), (.var 7)])]), (.tup [(.ks [106, 111, 105, 110]), (.var 7), (.tup [(.ks [106, 111, 105, 110]), (.var 8), (.var 9)])])]),
  .rtn (.band [(.call 9 [(.var 6), (.var 10)] []), (.cmp .eq (.call 5 [(.ks [40, 41])] []) (.tup [(.ks [101, 109, 112, 116, 121])])), (.cmp .eq (.call 5 [(.ks [40, 46, 41])] []) (.tup [(.ks [97, 110, 121])]))])]⟩
def f_law_hand : Df := ⟨4, [
  .asg (.nm 1) (.lc [(("_law_cell" : PySem.Str), 2)] (.nm 2) (.e (.slc (.var 0) none (some (.ki 63)))) [] (.bi .intf [(.var 2)])),
  .asg (.nm 3) (.bin .add (.ki 5602) (.bin .mul (.ki 71) (.bi .len [(.var 1)]))),
  .fors (.nm 2) (.e (.var 1)) [
    .asg (.nm 3) (.bin .mod (.bi .intf [(.bin .add (.bin .mul (.var 3) (.ki 6971)) (.var 2))]) (.ki 2147483587))],
  .rtn (.lst [(.var 1), (.ki 0), (.ki 0), (.var 3)])]⟩
def f_law_signs : Df := ⟨6, [
  .asg (.nm 2) (.ks [97, 98, 99, 100, 101, 102, 103, 104, 105, 106, 107, 108, 109, 110, 111, 112, 113, 114, 115, 116, 117, 118, 119, 120, 121, 122]),
  .asg (.tup [(.nm 3), (.nm 4)]) (.tup [(.call 10 [(.var 0), (.ki 26)] []), (.bin .add (.ki 1) (.call 10 [(.var 0), (.ki 8)] []))]),
  .rtn (.met .join (.ks []) [(.bi .sortedf [(.lc [(("_law_k" : PySem.Str), 5)] (.nm 5) (.rng [(.var 1)]) [] (.sub (.var 2) (.bin .mod (.bi .intf [(.bin .add (.var 3) (.bin .mul (.var 4) (.var 5)))]) (.ki 26))))])])]⟩
def f_law_pattern : Df := ⟨5, [
  .asg (.nm 3) (.call 10 [(.var 0), (.ki 10)] []),
  .ifs (.any [(.bv (.cmp .lt (.var 2) (.ki 2))), (.bv (.cmp .lt (.var 3) (.ki 3)))]) [
    .rtn (.call 11 [(.var 0), (.lst [(.tup [(.ks [108, 101, 116, 116, 101, 114]), (.call 11 [(.var 0), (.var 1)] [])]), (.tup [(.ks [108, 101, 116, 116, 101, 114]), (.sub (.var 1) (.ki 0))]), (.tup [(.ks [97, 110, 121])]), (.tup [(.ks [108, 101, 116, 116, 101, 114]), (.sub (.var 1) (.neg (.ki 1)))]), (.tup [(.ks [101, 109, 112, 116, 121])])])] [])] [],
  .asg (.nm 4) (.call 2 [(.var 0), (.var 1), (.bin .sub (.var 2) (.ki 1))] []),
  .ifs (.bv (.cmp .lt (.var 3) (.ki 6))) [
    .rtn (.tup [(.call 11 [(.var 0), (.lst [(.ks [115, 116, 97, 114]), (.ks [112, 108, 117, 115]), (.ks [109, 97, 121, 98, 101]), (.ks [110, 111, 116])])] []), (.var 4)])] [],
  .rtn (.tup [(.call 11 [(.var 0), (.lst [(.ks [106, 111, 105, 110]), (.ks [106, 111, 105, 110]), (.ks [101, 105, 116, 104, 101, 114]), (.ks [98, 111, 116, 104])])] []), (.var 4), (.call 2 [(.var 0), (.var 1), (.bin .sub (.var 2) (.ki 1))] [])])]⟩
def f_law_written : Df := ⟨5, [
  .asg (.nm 2) (.sub (.var 0) (.ki 0)),
  .ifs (.bv (.cmp .eq (.var 2) (.ks [108, 101, 116, 116, 101, 114]))) [
    .rtn (.sub (.var 0) (.ki 1))] [],
  .ifs (.bv (.cmp .inn (.var 2) (.tup [(.ks [97, 110, 121]), (.ks [101, 109, 112, 116, 121])]))) [
    .rtn (.ifx (.bv (.cmp .eq (.var 2) (.ks [97, 110, 121]))) (.ks [46]) (.ks [40, 41]))] [],
  .ifs (.bv (.cmp .eq (.var 2) (.ks [110, 111, 116]))) [
    .asg (.nm 3) (.bin .add (.ks [33]) (.call 3 [(.sub (.var 0) (.ki 1)), (.ki 3)] []))] [
    .ifs (.bv (.cmp .inn (.var 2) (.tup [(.ks [115, 116, 97, 114]), (.ks [112, 108, 117, 115]), (.ks [109, 97, 121, 98, 101])]))) [
      .asg (.nm 3) (.bin .add (.call 3 [(.sub (.var 0) (.ki 1)), (.ki 4)] []) (.sub (.dsp [(.ks [115, 116, 97, 114]), (.ks [42]), (.ks [112, 108, 117, 115]), (.ks [43]), (.ks [109, 97, 121, 98, 101]), (.ks [63])]) (.var 2)))] [
      .asg (.nm 4) (.call 12 [(.var 0)] []),
      .asg (.nm 3) (.bin .add (.bin .add (.call 3 [(.sub (.var 0) (.ki 1)), (.var 4)] []) (.sub (.dsp [(.ks [101, 105, 116, 104, 101, 114]), (.ks [124]), (.ks [98, 111, 116, 104]), (.ks [38]), (.ks [106, 111, 105, 110]), (.ks [])]) (.var 2))) (.call 3 [(.sub (.var 0) (.ki 2)), (.bin .add (.var 4) (.ki 1))] []))]],
  .rtn (.ifx (.bv (.cmp .ge (.call 12 [(.var 0)] []) (.var 1))) (.var 3) (.bin .add (.bin .add (.ks [40]) (.var 3)) (.ks [41])))]⟩
def f_pattern_text : Df := ⟨1, [
  .ifs (.nt (.val (.call 13 [(.var 0)] []))) [
    .nev] [],
  .rtn (.call 14 [(.var 0)] [])]⟩
def f_read_pattern : Df := ⟨3, [
  .ifs (.nt (.val (.isi (.var 0) (.ty "str")))) [
    .nev] [],
  .asg (.nm 1) (.mk 0 [(.var 0)] []),
  .asg (.nm 2) (.mcall 0 (.var 1) [(.ki 0)] []),
  .ifs (.bv (.cmp .lt (.fld (.var 1) 0) (.bi .len [(.var 0)]))) [
    .nev] [],
  .ifs (.nt (.val (.call 13 [(.var 2)] []))) [
    .nev] [],
  .rtn (.var 2)]⟩
def f_law_loose : Df := ⟨4, [
  .asg (.nm 2) (.sub (.var 1) (.ki 0)),
  .ifs (.bv (.cmp .inn (.var 2) (.tup [(.ks [108, 101, 116, 116, 101, 114]), (.ks [97, 110, 121]), (.ks [101, 109, 112, 116, 121])]))) [
    .asg (.nm 3) (.call 3 [(.var 1), (.ki 0)] [])] [
    .ifs (.bv (.cmp .inn (.var 2) (.tup [(.ks [101, 105, 116, 104, 101, 114]), (.ks [98, 111, 116, 104]), (.ks [106, 111, 105, 110])]))) [
      .asg (.nm 3) (.bin .add (.bin .add (.bin .add (.bin .add (.bin .add (.bin .add (.ks [40]) (.call 7 [(.var 0), (.sub (.var 1) (.ki 1))] [])) (.ks [41])) (.sub (.dsp [(.ks [101, 105, 116, 104, 101, 114]), (.ks [124]), (.ks [98, 111, 116, 104]), (.ks [38]), (.ks [106, 111, 105, 110]), (.ks [])]) (.var 2))) (.ks [40])) (.call 7 [(.var 0), (.sub (.var 1) (.ki 2))] [])) (.ks [41]))] [
      .asg (.nm 3) (.bin .add (.bin .add (.ks [40]) (.call 7 [(.var 0), (.sub (.var 1) (.ki 1))] [])) (.ks [41])),
      .asg (.nm 3) (.ifx (.bv (.cmp .eq (.var 2) (.ks [110, 111, 116]))) (.bin .add (.ks [33]) (.var 3)) (.bin .add (.var 3) (.sub (.dsp [(.ks [115, 116, 97, 114]), (.ks [42]), (.ks [112, 108, 117, 115]), (.ks [43]), (.ks [109, 97, 121, 98, 101]), (.ks [63])]) (.var 2))))]],
  .rtn (.ifx (.bv (.cmp .eq (.call 10 [(.var 0), (.ki 3)] []) (.ki 0))) (.bin .add (.bin .add (.ks [40]) (.var 3)) (.ks [41])) (.var 3))]⟩
def f_law_same : Df := ⟨4, [
  .ifs (.bv (.cmp .is (.var 1) .kn)) [
    .rtn (.cmp .is (.var 0) .kn)] [],
  .ifs (.any [(.val (.isi (.var 1) (.ty "bool"))), (.val (.isi (.var 0) (.ty "bool")))]) [
    .rtn (.band [(.isi (.var 1) (.ty "bool")), (.isi (.var 0) (.ty "bool")), (.cmp .eq (.var 0) (.var 1))])] [],
  .ifs (.val (.isis (.var 1) [(.ty "int"), (.ty "str")])) [
    .rtn (.band [(.isis (.var 0) [(.ty "int"), (.ty "str")]), (.cmp .eq (.isi (.var 0) (.ty "int")) (.isi (.var 1) (.ty "int"))), (.cmp .eq (.var 0) (.var 1))])] [],
  .ifs (.any [(.bv (.cmp .ne (.isi (.var 1) (.ty "list")) (.isi (.var 0) (.ty "list")))), (.bv (.cmp .ne (.isi (.var 1) (.ty "tuple")) (.isi (.var 0) (.ty "tuple"))))]) [
    .rtn (.kb false)] [],
  .rtn (.band [(.cmp .eq (.bi .len [(.var 0)]) (.bi .len [(.var 1)])), (.bi .allf [(.lc [(("_law_one" : PySem.Str), 2), (("_law_two" : PySem.Str), 3)] (.tup [(.nm 2), (.nm 3)]) (.zip (.var 0) (.var 1)) [] (.call 9 [(.var 2), (.var 3)] []))])])]⟩
def f_law_pick : Df := ⟨6, [
  .ifs (.bv (.cmp .lt (.sub (.var 0) (.ki 2)) (.ki 2))) [
    .asg (.sub (.var 0) (.ki 1)) (.bin .add (.sub (.var 0) (.ki 1)) (.ki 1)),
    .asg (.nm 2) (.bin .add (.sub (.var 0) (.ki 3)) (.bin .mul (.sub (.var 0) (.ki 1)) (.ki 9337))),
    .ifs (.bv (.cmp .le (.sub (.var 0) (.ki 1)) (.bi .len [(.sub (.var 0) (.ki 0))]))) [
      .asg (.nm 2) (.sub (.sub (.var 0) (.ki 0)) (.bin .sub (.sub (.var 0) (.ki 1)) (.ki 1)))] [],
    .ifs (.any [(.bv (.cmp .gt (.sub (.var 0) (.ki 1)) (.bi .len [(.sub (.var 0) (.ki 0))]))), (.bv (.cmp .lt (.var 2) (.bin .pow (.ki 10) (.ki 18))))]) [
      .asg (.nm 3) (.bin .mod (.bi .intf [(.bin .add (.bin .add (.bin .mul (.var 2) (.ki 39373)) (.bin .mul (.sub (.var 0) (.ki 1)) (.ki 40692))) (.sub (.var 0) (.ki 3)))]) (.ki 2147483647)),
      .asg (.nm 4) (.bin .mod (.bi .intf [(.bin .add (.bin .mul (.var 3) (.var 3)) (.bin .mul (.sub (.var 0) (.ki 1)) (.ki 52774)))]) (.ki 998244353)),
      .rtn (.bin .mod (.bin .fdiv (.bin .mod (.bi .intf [(.bin .add (.bin .mul (.var 4) (.ki 48271)) (.var 3))]) (.ki 2147483629)) (.ki 13)) (.var 1))] [],
    .asg (.sub (.var 0) (.ki 2)) (.var 2)] [],
  .asg (.nm 5) (.bin .mod (.bi .intf [(.sub (.var 0) (.ki 2))]) (.var 1)),
  .asg (.sub (.var 0) (.ki 2)) (.bin .fdiv (.bi .intf [(.sub (.var 0) (.ki 2))]) (.var 1)),
  .rtn (.var 5)]⟩
def f_law_of : Df := ⟨2, [
  .rtn (.sub (.var 1) (.call 10 [(.var 0), (.bi .len [(.var 1)])] []))]⟩
def f_law_rank : Df := ⟨2, [
  .asg (.nm 1) (.dsp [(.ks [101, 105, 116, 104, 101, 114]), (.ki 0), (.ks [98, 111, 116, 104]), (.ki 1), (.ks [106, 111, 105, 110]), (.ki 2), (.ks [110, 111, 116]), (.ki 3), (.ks [115, 116, 97, 114]), (.ki 4), (.ks [112, 108, 117, 115]), (.ki 4), (.ks [109, 97, 121, 98, 101]), (.ki 4)]),
  .rtn (.dgetd (.var 1) (.sub (.var 0) (.ki 0)) (.ki 5))]⟩
def f_is_pattern : Df := ⟨6, [
  .asg (.tup [(.nm 1), (.nm 2)]) (.tup [(.lst [(.tup [(.var 0), (.ki 1)])]), (.ki 0)]),
  .whl (.bv (.cmp .ne (.var 1) (.lst []))) [
    .asg (.tup [(.nm 3), (.nm 4)]) (.met .pop (.var 1) []),
    .aug 2 .add (.ki 1),
    .ifs (.any [(.bv (.cmp .gt (.var 4) (.gi ("MOST_DEPTH" : PySem.Str) 12))), (.bv (.cmp .gt (.var 2) (.gi ("MOST_TUPLES" : PySem.Str) 40))), (.nt (.val (.call 15 [(.var 3)] [])))]) [
      .rtn (.kb false)] [],
    .aug 1 .add (.lc [(("one" : PySem.Str), 5)] (.nm 5) (.e (.call 16 [(.var 3)] [])) [] (.tup [(.var 5), (.bin .add (.var 4) (.ki 1))]))],
  .rtn (.kb true)]⟩
def f_plain_text : Df := ⟨3, [
  .asg (.nm 1) (.sub (.var 0) (.ki 0)),
  .ifs (.bv (.cmp .eq (.var 1) (.ks [108, 101, 116, 116, 101, 114]))) [
    .rtn (.sub (.var 0) (.ki 1))] [],
  .ifs (.bv (.kin false (.var 1) ("PLAIN" : PySem.Str) [[97, 110, 121], [101, 109, 112, 116, 121]])) [
    .rtn (.ifx (.bv (.cmp .eq (.var 1) (.ks [97, 110, 121]))) (.ks [46]) (.ks [40, 41]))] [],
  .ifs (.bv (.cmp .eq (.var 1) (.ks [110, 111, 116]))) [
    .rtn (.bin .add (.ks [33]) (.call 17 [(.sub (.var 0) (.ki 1)), (.gi ("NOT_RANK" : PySem.Str) 3)] []))] [],
  .ifs (.bv (.kin false (.var 1) ("SINGLES" : PySem.Str) [[115, 116, 97, 114], [112, 108, 117, 115], [109, 97, 121, 98, 101]])) [
    .rtn (.bin .add (.call 17 [(.sub (.var 0) (.ki 1)), (.gi ("SINGLE_RANK" : PySem.Str) 4)] []) (.kget (.var 1) ("SINGLES" : PySem.Str) [([115, 116, 97, 114], .str [42]), ([112, 108, 117, 115], .str [43]), ([109, 97, 121, 98, 101], .str [63])]))] [],
  .asg (.nm 2) (.kget (.var 1) ("DOUBLES" : PySem.Str) [([101, 105, 116, 104, 101, 114], .int 0), ([98, 111, 116, 104], .int 1), ([106, 111, 105, 110], .int 2)]),
  .rtn (.bin .add (.bin .add (.call 17 [(.sub (.var 0) (.ki 1)), (.var 2)] []) (.kget (.var 1) ("SIGNS" : PySem.Str) [([101, 105, 116, 104, 101, 114], .str [124]), ([98, 111, 116, 104], .str [38]), ([106, 111, 105, 110], .str [])])) (.call 17 [(.sub (.var 0) (.ki 2)), (.bin .add (.var 2) (.ki 1))] []))]⟩
def f_has_form : Df := ⟨1, [
  .ifs (.any [(.nt (.val (.isi (.var 0) (.ty "tuple")))), (.bv (.cmp .eq (.bi .len [(.var 0)]) (.ki 0))), (.nt (.val (.isi (.sub (.var 0) (.ki 0)) (.ty "str"))))]) [
    .rtn (.kb false)] [],
  .ifs (.bv (.cmp .eq (.sub (.var 0) (.ki 0)) (.ks [108, 101, 116, 116, 101, 114]))) [
    .rtn (.band [(.cmp .eq (.bi .len [(.var 0)]) (.ki 2)), (.isi (.sub (.var 0) (.ki 1)) (.ty "str")), (.cmp .eq (.bi .len [(.sub (.var 0) (.ki 1))]) (.ki 1)), (.cmp .inn (.sub (.var 0) (.ki 1)) (.gs ("SMALL" : PySem.Str) [97, 98, 99, 100, 101, 102, 103, 104, 105, 106, 107, 108, 109, 110, 111, 112, 113, 114, 115, 116, 117, 118, 119, 120, 121, 122]))])] [],
  .ifs (.bv (.kin false (.sub (.var 0) (.ki 0)) ("PLAIN" : PySem.Str) [[97, 110, 121], [101, 109, 112, 116, 121]])) [
    .rtn (.cmp .eq (.bi .len [(.var 0)]) (.ki 1))] [],
  .rtn (.ifx (.bv (.kin false (.sub (.var 0) (.ki 0)) ("DOUBLES" : PySem.Str) [[101, 105, 116, 104, 101, 114], [98, 111, 116, 104], [106, 111, 105, 110]])) (.cmp .eq (.bi .len [(.var 0)]) (.ki 3)) (.band [(.cmp .eq (.bi .len [(.var 0)]) (.ki 2)), (.bor [(.kin false (.sub (.var 0) (.ki 0)) ("SINGLES" : PySem.Str) [[115, 116, 97, 114], [112, 108, 117, 115], [109, 97, 121, 98, 101]]), (.cmp .eq (.sub (.var 0) (.ki 0)) (.ks [110, 111, 116]))])]))]⟩
def f_inside : Df := ⟨1, [
  .rtn (.ifx (.bv (.cmp .eq (.sub (.var 0) (.ki 0)) (.ks [108, 101, 116, 116, 101, 114]))) (.lst []) (.bi .listf [(.slc (.var 0) (some (.ki 1)) none)]))]⟩
def f_text_for : Df := ⟨3, [
  .asg (.nm 2) (.call 14 [(.var 0)] []),
  .rtn (.ifx (.bv (.cmp .ge (.call 18 [(.var 0)] []) (.var 1))) (.var 2) (.fst [(.ks [40]), (.var 2), (.ks [41])]))]⟩
def f_rank_of : Df := ⟨1, [
  .ifs (.bv (.kin false (.sub (.var 0) (.ki 0)) ("DOUBLES" : PySem.Str) [[101, 105, 116, 104, 101, 114], [98, 111, 116, 104], [106, 111, 105, 110]])) [
    .rtn (.kget (.sub (.var 0) (.ki 0)) ("DOUBLES" : PySem.Str) [([101, 105, 116, 104, 101, 114], .int 0), ([98, 111, 116, 104], .int 1), ([106, 111, 105, 110], .int 2)])] [],
  .ifs (.bv (.cmp .eq (.sub (.var 0) (.ki 0)) (.ks [110, 111, 116]))) [
    .rtn (.gi ("NOT_RANK" : PySem.Str) 3)] [],
  .rtn (.ifx (.bv (.kin false (.sub (.var 0) (.ki 0)) ("SINGLES" : PySem.Str) [[115, 116, 97, 114], [112, 108, 117, 115], [109, 97, 121, 98, 101]])) (.gi ("SINGLE_RANK" : PySem.Str) 4) (.gi ("UNIT_RANK" : PySem.Str) 5))]⟩
def f_Reading_double : Df := ⟨4, [
  .asg (.nm 2) (.sub (.tup [(.ks [101, 105, 116, 104, 101, 114]), (.ks [98, 111, 116, 104]), (.ks [106, 111, 105, 110])]) (.var 1)),
  .asg (.nm 3) (.mcall 1 (.var 0) [(.var 1)] []),
  .whl (.val (.mcall 2 (.var 0) [(.var 2)] [])) [
    .ifs (.bv (.cmp .ne (.var 2) (.ks [106, 111, 105, 110]))) [
      .exp (.mcall 3 (.var 0) [] [])] [],
    .asg (.nm 3) (.tup [(.var 2), (.var 3), (.mcall 1 (.var 0) [(.var 1)] [])])],
  .rtn (.var 3)]⟩
def f_Reading_init : Df := ⟨2, [
  .asg (.fld (.var 0) 1) (.var 1),
  .asg (.fld (.var 0) 0) (.ki 0),
  .asg (.fld (.var 0) 2) (.ki 0)]⟩
def f_Reading_part : Df := ⟨2, [
  .rtn (.ifx (.bv (.cmp .eq (.var 1) (.ki 2))) (.mcall 4 (.var 0) [] []) (.mcall 0 (.var 0) [(.bin .add (.var 1) (.ki 1))] []))]⟩
def f_Reading_goes_on : Df := ⟨2, [
  .rtn (.ifx (.bv (.cmp .eq (.var 1) (.ks [106, 111, 105, 110]))) (.mcall 5 (.var 0) [] []) (.cmp .eq (.mcall 6 (.var 0) [] []) (.kget (.var 1) ("SIGNS" : PySem.Str) [([101, 105, 116, 104, 101, 114], .str [124]), ([98, 111, 116, 104], .str [38]), ([106, 111, 105, 110], .str [])])))]⟩
def f_Reading_take : Df := ⟨1, [
  .augf (.var 0) 0 .add (.ki 1),
  .rtn (.sub (.fld (.var 0) 1) (.bin .sub (.fld (.var 0) 0) (.ki 1)))]⟩
def f_Reading_item : Df := ⟨4, [
  .asg (.nm 1) (.ki 0),
  .whl (.bv (.cmp .eq (.mcall 6 (.var 0) [] []) (.ks [33]))) [
    .exp (.mcall 3 (.var 0) [] []),
    .aug 1 .add (.ki 1)],
  .asg (.nm 2) (.mcall 7 (.var 0) [] []),
  .whl (.all [(.bv (.cmp .ne (.mcall 6 (.var 0) [] []) (.ks []))), (.bv (.cmp .inn (.mcall 6 (.var 0) [] []) (.ks [42, 43, 63])))]) [
    .asg (.nm 2) (.tup [(.sub (.dsp [(.ks [42]), (.ks [115, 116, 97, 114]), (.ks [43]), (.ks [112, 108, 117, 115]), (.ks [63]), (.ks [109, 97, 121, 98, 101])]) (.mcall 3 (.var 0) [] [])), (.var 2)])],
  .fors (.nm 3) (.rng [(.var 1)]) [
    .asg (.nm 2) (.tup [(.ks [110, 111, 116]), (.var 2)])],
  .rtn (.var 2)]⟩
def f_Reading_begins_item : Df := ⟨1, [
  .rtn (.band [(.cmp .ne (.mcall 6 (.var 0) [] []) (.ks [])), (.cmp .inn (.mcall 6 (.var 0) [] []) (.bin .add (.gs ("SMALL" : PySem.Str) [97, 98, 99, 100, 101, 102, 103, 104, 105, 106, 107, 108, 109, 110, 111, 112, 113, 114, 115, 116, 117, 118, 119, 120, 121, 122]) (.ks [46, 40, 33])))])]⟩
def f_Reading_sign : Df := ⟨1, [
  .rtn (.slc (.fld (.var 0) 1) (some (.fld (.var 0) 0)) (some (.bin .add (.fld (.var 0) 0) (.ki 1))))]⟩
def f_Reading_unit : Df := ⟨3, [
  .ifs (.any [(.bv (.cmp .eq (.mcall 6 (.var 0) [] []) (.ks []))), (.bv (.cmp .nin (.mcall 6 (.var 0) [] []) (.bin .add (.gs ("SMALL" : PySem.Str) [97, 98, 99, 100, 101, 102, 103, 104, 105, 106, 107, 108, 109, 110, 111, 112, 113, 114, 115, 116, 117, 118, 119, 120, 121, 122]) (.ks [46, 40])))), (.all [(.bv (.cmp .eq (.mcall 6 (.var 0) [] []) (.ks [40]))), (.bv (.cmp .eq (.fld (.var 0) 2) (.gi ("MOST_NESTED" : PySem.Str) 40)))])]) [
    .nev] [],
  .asg (.nm 1) (.mcall 3 (.var 0) [] []),
  .ifs (.bv (.cmp .ne (.var 1) (.ks [40]))) [
    .rtn (.ifx (.bv (.cmp .eq (.var 1) (.ks [46]))) (.tup [(.ks [97, 110, 121])]) (.tup [(.ks [108, 101, 116, 116, 101, 114]), (.var 1)]))] [],
  .ifs (.bv (.cmp .eq (.mcall 6 (.var 0) [] []) (.ks [41]))) [
    .exp (.mcall 3 (.var 0) [] []),
    .rtn (.tup [(.ks [101, 109, 112, 116, 121])])] [],
  .augf (.var 0) 2 .add (.ki 1),
  .asg (.nm 2) (.mcall 0 (.var 0) [(.ki 0)] []),
  .augf (.var 0) 2 .sub (.ki 1),
  .ifs (.bv (.cmp .ne (.mcall 6 (.var 0) [] []) (.ks [41]))) [
    .nev] [],
  .exp (.mcall 3 (.var 0) [] []),
  .rtn (.var 2)]⟩
def prog : Dx.Tm := { defs := [f_law, f_law_hand, f_law_signs, f_law_pattern, f_law_written, f_pattern_text, f_read_pattern, f_law_loose, f_law_same, f_law_pick, f_law_of, f_law_rank, f_is_pattern, f_plain_text, f_has_form, f_inside, f_text_for, f_rank_of, f_Reading_double, f_Reading_init, f_Reading_part, f_Reading_goes_on, f_Reading_take, f_Reading_item, f_Reading_begins_item, f_Reading_sign, f_Reading_unit], tgs := [(1, ([0]).map .ix), (2, ([0, 1]).map .ix), (3, ([0, 1, 2]).map .ix), (4, ([0, 1]).map .ix), (5, ([0]).map .ix), (6, ([0]).map .ix), (6, ([0]).map .ix), (7, ([0, 1]).map .ix), (5, ([0]).map .ix), (8, ([0, 1]).map .ix), (9, ([0, 1]).map .ix), (10, ([0, 1]).map .ix), (11, ([0]).map .ix), (12, ([0]).map .ix), (13, ([0]).map .ix), (14, ([0]).map .ix), (15, ([0]).map .ix), (16, ([0, 1]).map .ix), (17, ([0]).map .ix), (18, ([0, 1]).map .ix), (19, ([0, 1]).map .ix), (20, ([0, 1]).map .ix), (21, ([0, 1]).map .ix), (22, ([0]).map .ix), (23, ([0]).map .ix), (24, ([0]).map .ix), (25, ([0]).map .ix), (26, ([0]).map .ix)], cfL := [(0, 0), (0, 1), (0, 2)], mtL := [(0, 0, 19), (0, 1, 21), (0, 2, 22), (0, 3, 23), (0, 4, 24), (0, 5, 25), (0, 6, 26), (0, 7, 27)], mkL := [(0, 0, 20)], subL := [] }
def pg : Dx.Pg := { gi := [(("MOST_DEPTH" : PySem.Str), 12), (("MOST_TUPLES" : PySem.Str), 40), (("NOT_RANK" : PySem.Str), 3), (("SINGLE_RANK" : PySem.Str), 4), (("UNIT_RANK" : PySem.Str), 5), (("MOST_NESTED" : PySem.Str), 40)], gs := [(("SMALL" : PySem.Str), [97, 98, 99, 100, 101, 102, 103, 104, 105, 106, 107, 108, 109, 110, 111, 112, 113, 114, 115, 116, 117, 118, 119, 120, 121, 122])], free := [("range" : PySem.Str), ("int" : PySem.Str), ("len" : PySem.Str), ("sorted" : PySem.Str), ("isinstance" : PySem.Str), ("str" : PySem.Str), ("bool" : PySem.Str), ("list" : PySem.Str), ("tuple" : PySem.Str), ("all" : PySem.Str), ("zip" : PySem.Str)], tg := [⟨.glo ("_law_hand" : PySem.Str), 1, []⟩, ⟨.glo ("_law_signs" : PySem.Str), 2, []⟩, ⟨.glo ("_law_pattern" : PySem.Str), 3, []⟩, ⟨.glo ("_law_written" : PySem.Str), 2, []⟩, ⟨.glo ("pattern_text" : PySem.Str), 1, []⟩, ⟨.glo ("read_pattern" : PySem.Str), 1, []⟩, ⟨.glo ("read_pattern" : PySem.Str), 0, [("text" : PySem.Str)]⟩, ⟨.glo ("_law_loose" : PySem.Str), 2, []⟩, ⟨.glo ("pattern_text" : PySem.Str), 0, [("pattern" : PySem.Str)]⟩, ⟨.glo ("_law_same" : PySem.Str), 2, []⟩, ⟨.glo ("_law_pick" : PySem.Str), 2, []⟩, ⟨.glo ("_law_of" : PySem.Str), 2, []⟩, ⟨.glo ("_law_rank" : PySem.Str), 1, []⟩, ⟨.glo ("is_pattern" : PySem.Str), 1, []⟩, ⟨.glo ("plain_text" : PySem.Str), 1, []⟩, ⟨.glo ("has_form" : PySem.Str), 1, []⟩, ⟨.glo ("inside" : PySem.Str), 1, []⟩, ⟨.glo ("text_for" : PySem.Str), 2, []⟩, ⟨.glo ("rank_of" : PySem.Str), 1, []⟩, ⟨.meth ("Reading" : PySem.Str) ("double" : PySem.Str), 2, []⟩, ⟨.meth ("Reading" : PySem.Str) ("__init__" : PySem.Str), 2, []⟩, ⟨.meth ("Reading" : PySem.Str) ("part" : PySem.Str), 2, []⟩, ⟨.meth ("Reading" : PySem.Str) ("goes_on" : PySem.Str), 2, []⟩, ⟨.meth ("Reading" : PySem.Str) ("take" : PySem.Str), 1, []⟩, ⟨.meth ("Reading" : PySem.Str) ("item" : PySem.Str), 1, []⟩, ⟨.meth ("Reading" : PySem.Str) ("begins_item" : PySem.Str), 1, []⟩, ⟨.meth ("Reading" : PySem.Str) ("sign" : PySem.Str), 1, []⟩, ⟨.meth ("Reading" : PySem.Str) ("unit" : PySem.Str), 1, []⟩], cls := [("Reading" : PySem.Str)], fld := [("at" : PySem.Str), ("text" : PySem.Str), ("nested" : PySem.Str)], mf := [(("double" : PySem.Str), 1, []), (("part" : PySem.Str), 1, []), (("goes_on" : PySem.Str), 1, []), (("take" : PySem.Str), 0, []), (("item" : PySem.Str), 0, []), (("begins_item" : PySem.Str), 0, []), (("sign" : PySem.Str), 0, []), (("unit" : PySem.Str), 0, [])], mkf := [(("Reading" : PySem.Str), 1, [])], noatL := [(("Reading" : PySem.Str), ("at" : PySem.Str)), (("Reading" : PySem.Str), ("text" : PySem.Str)), (("Reading" : PySem.Str), ("nested" : PySem.Str))], methL := [(("Reading" : PySem.Str), ("double" : PySem.Str)), (("Reading" : PySem.Str), ("part" : PySem.Str)), (("Reading" : PySem.Str), ("goes_on" : PySem.Str)), (("Reading" : PySem.Str), ("take" : PySem.Str)), (("Reading" : PySem.Str), ("item" : PySem.Str)), (("Reading" : PySem.Str), ("begins_item" : PySem.Str)), (("Reading" : PySem.Str), ("sign" : PySem.Str)), (("Reading" : PySem.Str), ("unit" : PySem.Str))], mkrL := [("Reading" : PySem.Str)], subL := [], gd := [(("SINGLES" : PySem.Str), [([115, 116, 97, 114], .str [42]), ([112, 108, 117, 115], .str [43]), ([109, 97, 121, 98, 101], .str [63])]), (("DOUBLES" : PySem.Str), [([101, 105, 116, 104, 101, 114], .int 0), ([98, 111, 116, 104], .int 1), ([106, 111, 105, 110], .int 2)]), (("SIGNS" : PySem.Str), [([101, 105, 116, 104, 101, 114], .str [124]), ([98, 111, 116, 104], .str [38]), ([106, 111, 105, 110], .str [])])], gt := [(("PLAIN" : PySem.Str), [[97, 110, 121], [101, 109, 112, 116, 121]])] }
abbrev s_law : Stmt := top 35
def r_law : Rw := ⟨⟨(("law" : PySem.Str), none), ("law" : PySem.Str), ("law" : PySem.Str), defArgs s_law, defBody s_law, defScope s_law, [], []⟩, [("_law_script" : PySem.Str), ("_law_hand_here" : PySem.Str), ("_law_signs_here" : PySem.Str), ("_law_turn" : PySem.Str), ("_law_shape" : PySem.Str), ("_law_wording" : PySem.Str), ("_law_told" : PySem.Str), ("_law_a" : PySem.Str), ("_law_b" : PySem.Str), ("_law_c" : PySem.Str), ("_law_due" : PySem.Str)], [("_law_script" : PySem.Str)]⟩
abbrev s_law_hand : Stmt := top 26
def r_law_hand : Rw := ⟨⟨(("_law_hand" : PySem.Str), none), ("_law_hand" : PySem.Str), ("_law_hand" : PySem.Str), defArgs s_law_hand, defBody s_law_hand, defScope s_law_hand, [], []⟩, [("_law_script" : PySem.Str), ("_law_cells" : PySem.Str), ("_law_cell" : PySem.Str), ("_law_mark" : PySem.Str)], [("_law_script" : PySem.Str)]⟩
abbrev s_law_signs : Stmt := top 30
def r_law_signs : Rw := ⟨⟨(("_law_signs" : PySem.Str), none), ("_law_signs" : PySem.Str), ("_law_signs" : PySem.Str), defArgs s_law_signs, defBody s_law_signs, defScope s_law_signs, [], []⟩, [("_law_hand_here" : PySem.Str), ("_law_many" : PySem.Str), ("_law_letters" : PySem.Str), ("_law_first" : PySem.Str), ("_law_apart" : PySem.Str), ("_law_k" : PySem.Str)], [("_law_hand_here" : PySem.Str), ("_law_many" : PySem.Str)]⟩
abbrev s_law_pattern : Stmt := top 31
def r_law_pattern : Rw := ⟨⟨(("_law_pattern" : PySem.Str), none), ("_law_pattern" : PySem.Str), ("_law_pattern" : PySem.Str), defArgs s_law_pattern, defBody s_law_pattern, defScope s_law_pattern, [], []⟩, [("_law_hand_here" : PySem.Str), ("_law_signs_here" : PySem.Str), ("_law_deep" : PySem.Str), ("_law_way" : PySem.Str), ("_law_one" : PySem.Str)], [("_law_hand_here" : PySem.Str), ("_law_signs_here" : PySem.Str), ("_law_deep" : PySem.Str)]⟩
abbrev s_law_written : Stmt := top 33
def r_law_written : Rw := ⟨⟨(("_law_written" : PySem.Str), none), ("_law_written" : PySem.Str), ("_law_written" : PySem.Str), defArgs s_law_written, defBody s_law_written, defScope s_law_written, [], []⟩, [("_law_shape" : PySem.Str), ("_law_lowest" : PySem.Str), ("_law_token" : PySem.Str), ("_law_wording" : PySem.Str), ("_law_rank_here" : PySem.Str)], [("_law_shape" : PySem.Str), ("_law_lowest" : PySem.Str)]⟩
abbrev s_pattern_text : Stmt := top 22
def r_pattern_text : Rw := ⟨⟨(("pattern_text" : PySem.Str), none), ("pattern_text" : PySem.Str), ("pattern_text" : PySem.Str), defArgs s_pattern_text, defBody s_pattern_text, defScope s_pattern_text, [], []⟩, [("pattern" : PySem.Str)], [("pattern" : PySem.Str)]⟩
abbrev s_read_pattern : Stmt := top 24
def r_read_pattern : Rw := ⟨⟨(("read_pattern" : PySem.Str), none), ("read_pattern" : PySem.Str), ("read_pattern" : PySem.Str), defArgs s_read_pattern, defBody s_read_pattern, defScope s_read_pattern, [], []⟩, [("text" : PySem.Str), ("reading" : PySem.Str), ("found" : PySem.Str)], [("text" : PySem.Str)]⟩
abbrev s_law_loose : Stmt := top 34
def r_law_loose : Rw := ⟨⟨(("_law_loose" : PySem.Str), none), ("_law_loose" : PySem.Str), ("_law_loose" : PySem.Str), defArgs s_law_loose, defBody s_law_loose, defScope s_law_loose, [], []⟩, [("_law_hand_here" : PySem.Str), ("_law_shape" : PySem.Str), ("_law_token" : PySem.Str), ("_law_wording" : PySem.Str)], [("_law_hand_here" : PySem.Str), ("_law_shape" : PySem.Str)]⟩
abbrev s_law_same : Stmt := top 29
def r_law_same : Rw := ⟨⟨(("_law_same" : PySem.Str), none), ("_law_same" : PySem.Str), ("_law_same" : PySem.Str), defArgs s_law_same, defBody s_law_same, defScope s_law_same, [], []⟩, [("_law_found" : PySem.Str), ("_law_due" : PySem.Str), ("_law_one" : PySem.Str), ("_law_two" : PySem.Str)], [("_law_found" : PySem.Str), ("_law_due" : PySem.Str)]⟩
abbrev s_law_pick : Stmt := top 27
def r_law_pick : Rw := ⟨⟨(("_law_pick" : PySem.Str), none), ("_law_pick" : PySem.Str), ("_law_pick" : PySem.Str), defArgs s_law_pick, defBody s_law_pick, defScope s_law_pick, [], []⟩, [("_law_hand_here" : PySem.Str), ("_law_many" : PySem.Str), ("_law_cell" : PySem.Str), ("_law_one" : PySem.Str), ("_law_two" : PySem.Str), ("_law_drawn" : PySem.Str)], [("_law_hand_here" : PySem.Str), ("_law_many" : PySem.Str)]⟩
abbrev s_law_of : Stmt := top 28
def r_law_of : Rw := ⟨⟨(("_law_of" : PySem.Str), none), ("_law_of" : PySem.Str), ("_law_of" : PySem.Str), defArgs s_law_of, defBody s_law_of, defScope s_law_of, [], []⟩, [("_law_hand_here" : PySem.Str), ("_law_items" : PySem.Str)], [("_law_hand_here" : PySem.Str), ("_law_items" : PySem.Str)]⟩
abbrev s_law_rank : Stmt := top 32
def r_law_rank : Rw := ⟨⟨(("_law_rank" : PySem.Str), none), ("_law_rank" : PySem.Str), ("_law_rank" : PySem.Str), defArgs s_law_rank, defBody s_law_rank, defScope s_law_rank, [], []⟩, [("_law_shape" : PySem.Str), ("_law_ranks" : PySem.Str)], [("_law_shape" : PySem.Str)]⟩
abbrev s_is_pattern : Stmt := top 18
def r_is_pattern : Rw := ⟨⟨(("is_pattern" : PySem.Str), none), ("is_pattern" : PySem.Str), ("is_pattern" : PySem.Str), defArgs s_is_pattern, defBody s_is_pattern, defScope s_is_pattern, [], []⟩, [("value" : PySem.Str), ("waiting" : PySem.Str), ("many" : PySem.Str), ("part" : PySem.Str), ("depth" : PySem.Str), ("one" : PySem.Str)], [("value" : PySem.Str)]⟩
abbrev s_plain_text : Stmt := top 21
def r_plain_text : Rw := ⟨⟨(("plain_text" : PySem.Str), none), ("plain_text" : PySem.Str), ("plain_text" : PySem.Str), defArgs s_plain_text, defBody s_plain_text, defScope s_plain_text, [], []⟩, [("pattern" : PySem.Str), ("word" : PySem.Str), ("rank" : PySem.Str)], [("pattern" : PySem.Str)]⟩
abbrev s_has_form : Stmt := top 16
def r_has_form : Rw := ⟨⟨(("has_form" : PySem.Str), none), ("has_form" : PySem.Str), ("has_form" : PySem.Str), defArgs s_has_form, defBody s_has_form, defScope s_has_form, [], []⟩, [("value" : PySem.Str)], [("value" : PySem.Str)]⟩
abbrev s_inside : Stmt := top 17
def r_inside : Rw := ⟨⟨(("inside" : PySem.Str), none), ("inside" : PySem.Str), ("inside" : PySem.Str), defArgs s_inside, defBody s_inside, defScope s_inside, [], []⟩, [("pattern" : PySem.Str)], [("pattern" : PySem.Str)]⟩
abbrev s_text_for : Stmt := top 20
def r_text_for : Rw := ⟨⟨(("text_for" : PySem.Str), none), ("text_for" : PySem.Str), ("text_for" : PySem.Str), defArgs s_text_for, defBody s_text_for, defScope s_text_for, [], []⟩, [("pattern" : PySem.Str), ("least" : PySem.Str), ("text" : PySem.Str)], [("pattern" : PySem.Str), ("least" : PySem.Str)]⟩
abbrev s_rank_of : Stmt := top 19
def r_rank_of : Rw := ⟨⟨(("rank_of" : PySem.Str), none), ("rank_of" : PySem.Str), ("rank_of" : PySem.Str), defArgs s_rank_of, defBody s_rank_of, defScope s_rank_of, [], []⟩, [("pattern" : PySem.Str)], [("pattern" : PySem.Str)]⟩
abbrev s_Reading_double : Stmt := inClass (top 23) 4
def r_Reading_double : Rw := ⟨⟨(("Reading" : PySem.Str), some ("double" : PySem.Str)), ("double" : PySem.Str), ("Reading.double" : PySem.Str), defArgs s_Reading_double, defBody s_Reading_double, defScope s_Reading_double, [], []⟩, [("self" : PySem.Str), ("rank" : PySem.Str), ("word" : PySem.Str), ("found" : PySem.Str)], [("self" : PySem.Str), ("rank" : PySem.Str)]⟩
abbrev s_Reading_init : Stmt := inClass (top 23) 0
def r_Reading_init : Rw := ⟨⟨(("Reading" : PySem.Str), some ("__init__" : PySem.Str)), ("__init__" : PySem.Str), ("Reading.__init__" : PySem.Str), defArgs s_Reading_init, defBody s_Reading_init, defScope s_Reading_init, [], []⟩, [("self" : PySem.Str), ("text" : PySem.Str)], [("self" : PySem.Str), ("text" : PySem.Str)]⟩
abbrev s_Reading_part : Stmt := inClass (top 23) 6
def r_Reading_part : Rw := ⟨⟨(("Reading" : PySem.Str), some ("part" : PySem.Str)), ("part" : PySem.Str), ("Reading.part" : PySem.Str), defArgs s_Reading_part, defBody s_Reading_part, defScope s_Reading_part, [], []⟩, [("self" : PySem.Str), ("rank" : PySem.Str)], [("self" : PySem.Str), ("rank" : PySem.Str)]⟩
abbrev s_Reading_goes_on : Stmt := inClass (top 23) 5
def r_Reading_goes_on : Rw := ⟨⟨(("Reading" : PySem.Str), some ("goes_on" : PySem.Str)), ("goes_on" : PySem.Str), ("Reading.goes_on" : PySem.Str), defArgs s_Reading_goes_on, defBody s_Reading_goes_on, defScope s_Reading_goes_on, [], []⟩, [("self" : PySem.Str), ("word" : PySem.Str)], [("self" : PySem.Str), ("word" : PySem.Str)]⟩
abbrev s_Reading_take : Stmt := inClass (top 23) 2
def r_Reading_take : Rw := ⟨⟨(("Reading" : PySem.Str), some ("take" : PySem.Str)), ("take" : PySem.Str), ("Reading.take" : PySem.Str), defArgs s_Reading_take, defBody s_Reading_take, defScope s_Reading_take, [], []⟩, [("self" : PySem.Str)], [("self" : PySem.Str)]⟩
abbrev s_Reading_item : Stmt := inClass (top 23) 7
def r_Reading_item : Rw := ⟨⟨(("Reading" : PySem.Str), some ("item" : PySem.Str)), ("item" : PySem.Str), ("Reading.item" : PySem.Str), defArgs s_Reading_item, defBody s_Reading_item, defScope s_Reading_item, [], []⟩, [("self" : PySem.Str), ("many" : PySem.Str), ("found" : PySem.Str), ("step" : PySem.Str)], [("self" : PySem.Str)]⟩
abbrev s_Reading_begins_item : Stmt := inClass (top 23) 3
def r_Reading_begins_item : Rw := ⟨⟨(("Reading" : PySem.Str), some ("begins_item" : PySem.Str)), ("begins_item" : PySem.Str), ("Reading.begins_item" : PySem.Str), defArgs s_Reading_begins_item, defBody s_Reading_begins_item, defScope s_Reading_begins_item, [], []⟩, [("self" : PySem.Str)], [("self" : PySem.Str)]⟩
abbrev s_Reading_sign : Stmt := inClass (top 23) 1
def r_Reading_sign : Rw := ⟨⟨(("Reading" : PySem.Str), some ("sign" : PySem.Str)), ("sign" : PySem.Str), ("Reading.sign" : PySem.Str), defArgs s_Reading_sign, defBody s_Reading_sign, defScope s_Reading_sign, [], []⟩, [("self" : PySem.Str)], [("self" : PySem.Str)]⟩
abbrev s_Reading_unit : Stmt := inClass (top 23) 8
def r_Reading_unit : Rw := ⟨⟨(("Reading" : PySem.Str), some ("unit" : PySem.Str)), ("unit" : PySem.Str), ("Reading.unit" : PySem.Str), defArgs s_Reading_unit, defBody s_Reading_unit, defScope s_Reading_unit, [], []⟩, [("self" : PySem.Str), ("sign" : PySem.Str), ("found" : PySem.Str)], [("self" : PySem.Str)]⟩
def fn : List He.DefD := [r_law.dd, r_law_hand.dd, r_law_signs.dd, r_law_pattern.dd, r_law_written.dd, r_pattern_text.dd, r_read_pattern.dd, r_law_loose.dd, r_law_same.dd, r_law_pick.dd, r_law_of.dd, r_law_rank.dd, r_is_pattern.dd, r_plain_text.dd, r_has_form.dd, r_inside.dd, r_text_for.dd, r_rank_of.dd, r_Reading_double.dd, r_Reading_init.dd, r_Reading_part.dd, r_Reading_goes_on.dd, r_Reading_take.dd, r_Reading_item.dd, r_Reading_begins_item.dd, r_Reading_sign.dd, r_Reading_unit.dd]
def ex : List He.Fa := [.glo "law"]
theorem b_law : rowB pg r_law f_law = true := by decide +kernel
theorem b_law_hand : rowB pg r_law_hand f_law_hand = true := by decide +kernel
theorem b_law_signs : rowB pg r_law_signs f_law_signs = true := by decide +kernel
theorem b_law_pattern : rowB pg r_law_pattern f_law_pattern = true := by decide +kernel
theorem b_law_written : rowB pg r_law_written f_law_written = true := by decide +kernel
theorem b_pattern_text : rowB pg r_pattern_text f_pattern_text = true := by decide +kernel
theorem b_read_pattern : rowB pg r_read_pattern f_read_pattern = true := by decide +kernel
theorem b_law_loose : rowB pg r_law_loose f_law_loose = true := by decide +kernel
theorem b_law_same : rowB pg r_law_same f_law_same = true := by decide +kernel
theorem b_law_pick : rowB pg r_law_pick f_law_pick = true := by decide +kernel
theorem b_law_of : rowB pg r_law_of f_law_of = true := by decide +kernel
theorem b_law_rank : rowB pg r_law_rank f_law_rank = true := by decide +kernel
theorem b_is_pattern : rowB pg r_is_pattern f_is_pattern = true := by decide +kernel
theorem b_plain_text : rowB pg r_plain_text f_plain_text = true := by decide +kernel
theorem b_has_form : rowB pg r_has_form f_has_form = true := by decide +kernel
theorem b_inside : rowB pg r_inside f_inside = true := by decide +kernel
theorem b_text_for : rowB pg r_text_for f_text_for = true := by decide +kernel
theorem b_rank_of : rowB pg r_rank_of f_rank_of = true := by decide +kernel
theorem b_Reading_double : rowB pg r_Reading_double f_Reading_double = true := by decide +kernel
theorem b_Reading_init : rowB pg r_Reading_init f_Reading_init = true := by decide +kernel
theorem b_Reading_part : rowB pg r_Reading_part f_Reading_part = true := by decide +kernel
theorem b_Reading_goes_on : rowB pg r_Reading_goes_on f_Reading_goes_on = true := by decide +kernel
theorem b_Reading_take : rowB pg r_Reading_take f_Reading_take = true := by decide +kernel
theorem b_Reading_item : rowB pg r_Reading_item f_Reading_item = true := by decide +kernel
theorem b_Reading_begins_item : rowB pg r_Reading_begins_item f_Reading_begins_item = true := by decide +kernel
theorem b_Reading_sign : rowB pg r_Reading_sign f_Reading_sign = true := by decide +kernel
theorem b_Reading_unit : rowB pg r_Reading_unit f_Reading_unit = true := by decide +kernel
theorem tmb : tmB pg prog = true := by decide +kernel
theorem noT : (t : Nat) → t ≥ 28 → pg.tg[t]? = none := fun t h => List.getElem?_eq_none h
theorem hD {K : PySem.W.Frag} {h : Heap} {mg : Str → Option Value} {T : Dx.Tab} (X : K.In h) (G : h.Ns mainGlobals mg) (c : He.SaysD (pg.fa ++ ex) fn K) : ∀ t g, pg.tg[t]? = some g → PySem.W.keepIn K (.ref (g.at_.ad K)) = true ∧ (∀ y, g.at_ = .glo y → mg y = some (.ref (g.at_.ad K))) ∧ DefOk T pg prog K t g (g.at_.ad K) := by
  intro t g e
  have e0 := e
  match t, e with
  | 0, e =>
    cases e
    have z := defOk_of (T := T) (p := pg) (Tp := prog) c (t := 0) (g := ⟨.glo ("_law_hand" : PySem.Str), 1, []⟩) (r := r_law_hand) (List.mem_of_getElem? (i := 1) rfl) rfl rfl b_law_hand (fun fd F => bindK_pure F [0] rfl rfl fun _ _ _ _ _ _ us ws l1 l2 => match us, ws, l1, l2 with | [_], [], _, _ => rfl)
    exact ⟨z.1, glo_of X G c e0, z.2⟩
  | 1, e =>
    cases e
    have z := defOk_of (T := T) (p := pg) (Tp := prog) c (t := 1) (g := ⟨.glo ("_law_signs" : PySem.Str), 2, []⟩) (r := r_law_signs) (List.mem_of_getElem? (i := 2) rfl) rfl rfl b_law_signs (fun fd F => bindK_pure F [0, 1] rfl rfl fun _ _ _ _ _ _ us ws l1 l2 => match us, ws, l1, l2 with | [_, _], [], _, _ => rfl)
    exact ⟨z.1, glo_of X G c e0, z.2⟩
  | 2, e =>
    cases e
    have z := defOk_of (T := T) (p := pg) (Tp := prog) c (t := 2) (g := ⟨.glo ("_law_pattern" : PySem.Str), 3, []⟩) (r := r_law_pattern) (List.mem_of_getElem? (i := 3) rfl) rfl rfl b_law_pattern (fun fd F => bindK_pure F [0, 1, 2] rfl rfl fun _ _ _ _ _ _ us ws l1 l2 => match us, ws, l1, l2 with | [_, _, _], [], _, _ => rfl)
    exact ⟨z.1, glo_of X G c e0, z.2⟩
  | 3, e =>
    cases e
    have z := defOk_of (T := T) (p := pg) (Tp := prog) c (t := 3) (g := ⟨.glo ("_law_written" : PySem.Str), 2, []⟩) (r := r_law_written) (List.mem_of_getElem? (i := 4) rfl) rfl rfl b_law_written (fun fd F => bindK_pure F [0, 1] rfl rfl fun _ _ _ _ _ _ us ws l1 l2 => match us, ws, l1, l2 with | [_, _], [], _, _ => rfl)
    exact ⟨z.1, glo_of X G c e0, z.2⟩
  | 4, e =>
    cases e
    have z := defOk_of (T := T) (p := pg) (Tp := prog) c (t := 4) (g := ⟨.glo ("pattern_text" : PySem.Str), 1, []⟩) (r := r_pattern_text) (List.mem_of_getElem? (i := 5) rfl) rfl rfl b_pattern_text (fun fd F => bindK_pure F [0] rfl rfl fun _ _ _ _ _ _ us ws l1 l2 => match us, ws, l1, l2 with | [_], [], _, _ => rfl)
    exact ⟨z.1, glo_of X G c e0, z.2⟩
  | 5, e =>
    cases e
    have z := defOk_of (T := T) (p := pg) (Tp := prog) c (t := 5) (g := ⟨.glo ("read_pattern" : PySem.Str), 1, []⟩) (r := r_read_pattern) (List.mem_of_getElem? (i := 6) rfl) rfl rfl b_read_pattern (fun fd F => bindK_pure F [0] rfl rfl fun _ _ _ _ _ _ us ws l1 l2 => match us, ws, l1, l2 with | [_], [], _, _ => rfl)
    exact ⟨z.1, glo_of X G c e0, z.2⟩
  | 6, e =>
    cases e
    have z := defOk_of (T := T) (p := pg) (Tp := prog) c (t := 6) (g := ⟨.glo ("read_pattern" : PySem.Str), 0, [("text" : PySem.Str)]⟩) (r := r_read_pattern) (List.mem_of_getElem? (i := 6) rfl) rfl rfl b_read_pattern (fun fd F => bindK_pure F [0] rfl rfl fun _ _ _ _ _ _ us ws l1 l2 => match us, ws, l1, l2 with | [], [_], _, _ => rfl)
    exact ⟨z.1, glo_of X G c e0, z.2⟩
  | 7, e =>
    cases e
    have z := defOk_of (T := T) (p := pg) (Tp := prog) c (t := 7) (g := ⟨.glo ("_law_loose" : PySem.Str), 2, []⟩) (r := r_law_loose) (List.mem_of_getElem? (i := 7) rfl) rfl rfl b_law_loose (fun fd F => bindK_pure F [0, 1] rfl rfl fun _ _ _ _ _ _ us ws l1 l2 => match us, ws, l1, l2 with | [_, _], [], _, _ => rfl)
    exact ⟨z.1, glo_of X G c e0, z.2⟩
  | 8, e =>
    cases e
    have z := defOk_of (T := T) (p := pg) (Tp := prog) c (t := 8) (g := ⟨.glo ("pattern_text" : PySem.Str), 0, [("pattern" : PySem.Str)]⟩) (r := r_pattern_text) (List.mem_of_getElem? (i := 5) rfl) rfl rfl b_pattern_text (fun fd F => bindK_pure F [0] rfl rfl fun _ _ _ _ _ _ us ws l1 l2 => match us, ws, l1, l2 with | [], [_], _, _ => rfl)
    exact ⟨z.1, glo_of X G c e0, z.2⟩
  | 9, e =>
    cases e
    have z := defOk_of (T := T) (p := pg) (Tp := prog) c (t := 9) (g := ⟨.glo ("_law_same" : PySem.Str), 2, []⟩) (r := r_law_same) (List.mem_of_getElem? (i := 8) rfl) rfl rfl b_law_same (fun fd F => bindK_pure F [0, 1] rfl rfl fun _ _ _ _ _ _ us ws l1 l2 => match us, ws, l1, l2 with | [_, _], [], _, _ => rfl)
    exact ⟨z.1, glo_of X G c e0, z.2⟩
  | 10, e =>
    cases e
    have z := defOk_of (T := T) (p := pg) (Tp := prog) c (t := 10) (g := ⟨.glo ("_law_pick" : PySem.Str), 2, []⟩) (r := r_law_pick) (List.mem_of_getElem? (i := 9) rfl) rfl rfl b_law_pick (fun fd F => bindK_pure F [0, 1] rfl rfl fun _ _ _ _ _ _ us ws l1 l2 => match us, ws, l1, l2 with | [_, _], [], _, _ => rfl)
    exact ⟨z.1, glo_of X G c e0, z.2⟩
  | 11, e =>
    cases e
    have z := defOk_of (T := T) (p := pg) (Tp := prog) c (t := 11) (g := ⟨.glo ("_law_of" : PySem.Str), 2, []⟩) (r := r_law_of) (List.mem_of_getElem? (i := 10) rfl) rfl rfl b_law_of (fun fd F => bindK_pure F [0, 1] rfl rfl fun _ _ _ _ _ _ us ws l1 l2 => match us, ws, l1, l2 with | [_, _], [], _, _ => rfl)
    exact ⟨z.1, glo_of X G c e0, z.2⟩
  | 12, e =>
    cases e
    have z := defOk_of (T := T) (p := pg) (Tp := prog) c (t := 12) (g := ⟨.glo ("_law_rank" : PySem.Str), 1, []⟩) (r := r_law_rank) (List.mem_of_getElem? (i := 11) rfl) rfl rfl b_law_rank (fun fd F => bindK_pure F [0] rfl rfl fun _ _ _ _ _ _ us ws l1 l2 => match us, ws, l1, l2 with | [_], [], _, _ => rfl)
    exact ⟨z.1, glo_of X G c e0, z.2⟩
  | 13, e =>
    cases e
    have z := defOk_of (T := T) (p := pg) (Tp := prog) c (t := 13) (g := ⟨.glo ("is_pattern" : PySem.Str), 1, []⟩) (r := r_is_pattern) (List.mem_of_getElem? (i := 12) rfl) rfl rfl b_is_pattern (fun fd F => bindK_pure F [0] rfl rfl fun _ _ _ _ _ _ us ws l1 l2 => match us, ws, l1, l2 with | [_], [], _, _ => rfl)
    exact ⟨z.1, glo_of X G c e0, z.2⟩
  | 14, e =>
    cases e
    have z := defOk_of (T := T) (p := pg) (Tp := prog) c (t := 14) (g := ⟨.glo ("plain_text" : PySem.Str), 1, []⟩) (r := r_plain_text) (List.mem_of_getElem? (i := 13) rfl) rfl rfl b_plain_text (fun fd F => bindK_pure F [0] rfl rfl fun _ _ _ _ _ _ us ws l1 l2 => match us, ws, l1, l2 with | [_], [], _, _ => rfl)
    exact ⟨z.1, glo_of X G c e0, z.2⟩
  | 15, e =>
    cases e
    have z := defOk_of (T := T) (p := pg) (Tp := prog) c (t := 15) (g := ⟨.glo ("has_form" : PySem.Str), 1, []⟩) (r := r_has_form) (List.mem_of_getElem? (i := 14) rfl) rfl rfl b_has_form (fun fd F => bindK_pure F [0] rfl rfl fun _ _ _ _ _ _ us ws l1 l2 => match us, ws, l1, l2 with | [_], [], _, _ => rfl)
    exact ⟨z.1, glo_of X G c e0, z.2⟩
  | 16, e =>
    cases e
    have z := defOk_of (T := T) (p := pg) (Tp := prog) c (t := 16) (g := ⟨.glo ("inside" : PySem.Str), 1, []⟩) (r := r_inside) (List.mem_of_getElem? (i := 15) rfl) rfl rfl b_inside (fun fd F => bindK_pure F [0] rfl rfl fun _ _ _ _ _ _ us ws l1 l2 => match us, ws, l1, l2 with | [_], [], _, _ => rfl)
    exact ⟨z.1, glo_of X G c e0, z.2⟩
  | 17, e =>
    cases e
    have z := defOk_of (T := T) (p := pg) (Tp := prog) c (t := 17) (g := ⟨.glo ("text_for" : PySem.Str), 2, []⟩) (r := r_text_for) (List.mem_of_getElem? (i := 16) rfl) rfl rfl b_text_for (fun fd F => bindK_pure F [0, 1] rfl rfl fun _ _ _ _ _ _ us ws l1 l2 => match us, ws, l1, l2 with | [_, _], [], _, _ => rfl)
    exact ⟨z.1, glo_of X G c e0, z.2⟩
  | 18, e =>
    cases e
    have z := defOk_of (T := T) (p := pg) (Tp := prog) c (t := 18) (g := ⟨.glo ("rank_of" : PySem.Str), 1, []⟩) (r := r_rank_of) (List.mem_of_getElem? (i := 17) rfl) rfl rfl b_rank_of (fun fd F => bindK_pure F [0] rfl rfl fun _ _ _ _ _ _ us ws l1 l2 => match us, ws, l1, l2 with | [_], [], _, _ => rfl)
    exact ⟨z.1, glo_of X G c e0, z.2⟩
  | 19, e =>
    cases e
    have z := defOk_of (T := T) (p := pg) (Tp := prog) c (t := 19) (g := ⟨.meth ("Reading" : PySem.Str) ("double" : PySem.Str), 2, []⟩) (r := r_Reading_double) (List.mem_of_getElem? (i := 18) rfl) rfl rfl b_Reading_double (fun fd F => bindK_pure F [0, 1] rfl rfl fun _ _ _ _ _ _ us ws l1 l2 => match us, ws, l1, l2 with | [_, _], [], _, _ => rfl)
    exact ⟨z.1, glo_of X G c e0, z.2⟩
  | 20, e =>
    cases e
    have z := defOk_of (T := T) (p := pg) (Tp := prog) c (t := 20) (g := ⟨.meth ("Reading" : PySem.Str) ("__init__" : PySem.Str), 2, []⟩) (r := r_Reading_init) (List.mem_of_getElem? (i := 19) rfl) rfl rfl b_Reading_init (fun fd F => bindK_pure F [0, 1] rfl rfl fun _ _ _ _ _ _ us ws l1 l2 => match us, ws, l1, l2 with | [_, _], [], _, _ => rfl)
    exact ⟨z.1, glo_of X G c e0, z.2⟩
  | 21, e =>
    cases e
    have z := defOk_of (T := T) (p := pg) (Tp := prog) c (t := 21) (g := ⟨.meth ("Reading" : PySem.Str) ("part" : PySem.Str), 2, []⟩) (r := r_Reading_part) (List.mem_of_getElem? (i := 20) rfl) rfl rfl b_Reading_part (fun fd F => bindK_pure F [0, 1] rfl rfl fun _ _ _ _ _ _ us ws l1 l2 => match us, ws, l1, l2 with | [_, _], [], _, _ => rfl)
    exact ⟨z.1, glo_of X G c e0, z.2⟩
  | 22, e =>
    cases e
    have z := defOk_of (T := T) (p := pg) (Tp := prog) c (t := 22) (g := ⟨.meth ("Reading" : PySem.Str) ("goes_on" : PySem.Str), 2, []⟩) (r := r_Reading_goes_on) (List.mem_of_getElem? (i := 21) rfl) rfl rfl b_Reading_goes_on (fun fd F => bindK_pure F [0, 1] rfl rfl fun _ _ _ _ _ _ us ws l1 l2 => match us, ws, l1, l2 with | [_, _], [], _, _ => rfl)
    exact ⟨z.1, glo_of X G c e0, z.2⟩
  | 23, e =>
    cases e
    have z := defOk_of (T := T) (p := pg) (Tp := prog) c (t := 23) (g := ⟨.meth ("Reading" : PySem.Str) ("take" : PySem.Str), 1, []⟩) (r := r_Reading_take) (List.mem_of_getElem? (i := 22) rfl) rfl rfl b_Reading_take (fun fd F => bindK_pure F [0] rfl rfl fun _ _ _ _ _ _ us ws l1 l2 => match us, ws, l1, l2 with | [_], [], _, _ => rfl)
    exact ⟨z.1, glo_of X G c e0, z.2⟩
  | 24, e =>
    cases e
    have z := defOk_of (T := T) (p := pg) (Tp := prog) c (t := 24) (g := ⟨.meth ("Reading" : PySem.Str) ("item" : PySem.Str), 1, []⟩) (r := r_Reading_item) (List.mem_of_getElem? (i := 23) rfl) rfl rfl b_Reading_item (fun fd F => bindK_pure F [0] rfl rfl fun _ _ _ _ _ _ us ws l1 l2 => match us, ws, l1, l2 with | [_], [], _, _ => rfl)
    exact ⟨z.1, glo_of X G c e0, z.2⟩
  | 25, e =>
    cases e
    have z := defOk_of (T := T) (p := pg) (Tp := prog) c (t := 25) (g := ⟨.meth ("Reading" : PySem.Str) ("begins_item" : PySem.Str), 1, []⟩) (r := r_Reading_begins_item) (List.mem_of_getElem? (i := 24) rfl) rfl rfl b_Reading_begins_item (fun fd F => bindK_pure F [0] rfl rfl fun _ _ _ _ _ _ us ws l1 l2 => match us, ws, l1, l2 with | [_], [], _, _ => rfl)
    exact ⟨z.1, glo_of X G c e0, z.2⟩
  | 26, e =>
    cases e
    have z := defOk_of (T := T) (p := pg) (Tp := prog) c (t := 26) (g := ⟨.meth ("Reading" : PySem.Str) ("sign" : PySem.Str), 1, []⟩) (r := r_Reading_sign) (List.mem_of_getElem? (i := 25) rfl) rfl rfl b_Reading_sign (fun fd F => bindK_pure F [0] rfl rfl fun _ _ _ _ _ _ us ws l1 l2 => match us, ws, l1, l2 with | [_], [], _, _ => rfl)
    exact ⟨z.1, glo_of X G c e0, z.2⟩
  | 27, e =>
    cases e
    have z := defOk_of (T := T) (p := pg) (Tp := prog) c (t := 27) (g := ⟨.meth ("Reading" : PySem.Str) ("unit" : PySem.Str), 1, []⟩) (r := r_Reading_unit) (List.mem_of_getElem? (i := 26) rfl) rfl rfl b_Reading_unit (fun fd F => bindK_pure F [0] rfl rfl fun _ _ _ _ _ _ us ws l1 l2 => match us, ws, l1, l2 with | [_], [], _, _ => rfl)
    exact ⟨z.1, glo_of X G c e0, z.2⟩
  | t + 28, e => rw [noT _ (by omega)] at e; cases e
abbrev R : PySem.W.OpenRow := PySem.W.OpenLaw.row PySem.Challenge.rw_lastkept_k14_texts_of_patterns
abbrev hk : PySem.W.Hook := He.hookX 8 (pg.fa ++ ex) fn pg.ts [] pg.ex
def ob (s : PySem.W.SharedT) : He.AlX := He.obsX 8 (pg.fa ++ ex) fn pg.ts [] pg.ex (HandSHeadRun.getT s)
theorem ob_eq (s : PySem.W.SharedT) : ob s = hk.obs s.abs := He.obsX_eq (HandSHeadRun.getT_eq s)
def loose : List PySem.Str := ([("KeptError" : PySem.Str), ("InvalidPattern" : PySem.Str), ("ParseError" : PySem.Str), ("SMALL" : PySem.Str), ("MOST_TUPLES" : PySem.Str), ("MOST_DEPTH" : PySem.Str), ("MOST_NESTED" : PySem.Str), ("PLAIN" : PySem.Str), ("DOUBLES" : PySem.Str), ("SINGLES" : PySem.Str), ("SIGNS" : PySem.Str), ("NOT_RANK" : PySem.Str), ("SINGLE_RANK" : PySem.Str), ("UNIT_RANK" : PySem.Str), ("has_form" : PySem.Str), ("inside" : PySem.Str), ("is_pattern" : PySem.Str), ("rank_of" : PySem.Str), ("text_for" : PySem.Str), ("plain_text" : PySem.Str), ("pattern_text" : PySem.Str), ("Reading" : PySem.Str), ("read_pattern" : PySem.Str), ("_law_hand" : PySem.Str), ("_law_pick" : PySem.Str), ("_law_of" : PySem.Str), ("_law_same" : PySem.Str), ("_law_signs" : PySem.Str), ("_law_pattern" : PySem.Str), ("_law_rank" : PySem.Str), ("_law_written" : PySem.Str), ("_law_loose" : PySem.Str)] : List PySem.Str)
theorem run (w : World) : HandSHeadRun.RunEq R (PySem.W.view R.prog [35]) hk ob 20000 loose w := by
  refine PySem.W.byRow2 "special-get-raises" (P := fun w => HandSHeadRun.RunEq R (PySem.W.view R.prog [35]) hk ob 20000 loose w) (fun w => ?_) (fun w => ?_) w
  · intro os
    kernel_rfl
  · intro os
    kernel_rfl
def Tb : Dx.Tab := ⟨pg.cls, pg.fld, fun _ _ _ _ _ => False⟩
/-- WHAT IS LEFT: the plain law -/
def Plain : Prop := ∀ ns : List Int, ns.length ≤ 63 → wp (runD (envD prog 120) f_law [.scr (ns.map W.int)]) [] (fun w _ => w = .bl true) fun _ _ => False
theorem holds_of (pl : Plain) : PySem.Challenge.rw_lastkept_k14_texts_of_patterns.Holds := by
  w_on; o_law
  refine HandSHeadRun.head_any (r := PySem.W.OpenLaw.row PySem.Challenge.rw_lastkept_k14_texts_of_patterns) (q := PySem.W.view (PySem.W.OpenLaw.row PySem.Challenge.rw_lastkept_k14_texts_of_patterns).prog [35]) (H := hk) (ob := ob) (M := 20000) (loose := loose) (d := HandSHeadRun.topDef (PySem.W.OpenLaw.row PySem.Challenge.rw_lastkept_k14_texts_of_patterns).prog 35) (kwd := []) ob_eq
    (by kernel_rfl) (fun s => by kernel_rfl) run (by kernel_rfl) (by kernel_rfl) (by kernel_rfl) (by rfl) (by first | assumption | decide +kernel) (by decide +kernel) ⟨rfl, rfl, rfl, rfl, rfl, by decide +kernel⟩ ?hw ?hc
  case hw => w_witness2
  case hc =>
    refine walk_dx (l := PySem.Challenge.rw_lastkept_k14_texts_of_patterns) (n := 63) (k := 122) (x := "_law_script") (CX := fun w => L2.CX (PySem.Challenge.rw_lastkept_k14_texts_of_patterns).prog w) rfl (by decide) (by kernel_rfl) ⟨rfl, by decide, by decide⟩ ?F hCX_of
    intro w mg fa h Y G hmg0
    obtain ⟨K, KX, cx⟩ := Y
    have ct := cx.t
    have c := ct.d
    have hpg := pgOk_of KX G ct cx.more
    have hmg : mg ("law" : PySem.Str) = some (.ref fa) := by
      have e : (HandSHeadRun.topDef (PySem.W.OpenLaw.row PySem.Challenge.rw_lastkept_k14_texts_of_patterns).prog 35).name = ("law" : PySem.Str) := by kernel_rfl
      rw [← e]
      exact hmg0
    obtain ⟨fd, F⟩ := c.defs (d := r_law.dd) (List.mem_of_getElem? (i := 0) rfl)
    have e := hmg.symm.trans (He.glo_ok KX G (c.facts (f := .glo "law") (by simp [ex])))
    cases e
    have hb := b_law
    simp only [rowB, Bool.and_eq_true, decide_eq_true_eq] at hb
    have bA := FunD.bindsA (ps := r_law.ps) F fun _ _ _ _ _ _ us hl => match us, hl with | [_], _ => rfl
    exact ⟨K, fd, fun base => spD Tb (PySem.Challenge.rw_lastkept_k14_texts_of_patterns).prog w K mg base (envD prog 120) f_law 1, KX, fun s v => bA s [v] rfl, fun b H a ns hl hO hS => law_sp hO hS (pl ns hl), fun base hb1 hb2 => fnok_step (ps := r_law.ps) hpg F (scB_ok hb.1.1) hb.1.2 hb.2 ⟨tmb, rfl, rfl⟩ (callable_all hpg ⟨tmb, rfl, rfl⟩ (hD KX G c) 120)⟩
end Q

set_option maxRecDepth 100000
set_option maxHeartbeats 4000000
/-! P14a: texts read. -/
namespace Q
open PySem Dx

abbrev Cd (d : Nat) : Dx.Env := envD prog d
section
variable (d : Nat) (as : List W)
theorem c_double : (Cd (d + 1)).call 19 as = runD (Cd d) f_Reading_double (arrW as [.ix 0, .ix 1]) := envD_call rfl rfl as
theorem c_init : (Cd (d + 1)).call 20 as = runD (Cd d) f_Reading_init (arrW as [.ix 0, .ix 1]) := envD_call rfl rfl as
theorem c_part : (Cd (d + 1)).call 21 as = runD (Cd d) f_Reading_part (arrW as [.ix 0, .ix 1]) := envD_call rfl rfl as
theorem c_goes : (Cd (d + 1)).call 22 as = runD (Cd d) f_Reading_goes_on (arrW as [.ix 0, .ix 1]) := envD_call rfl rfl as
theorem c_take : (Cd (d + 1)).call 23 as = runD (Cd d) f_Reading_take (arrW as [.ix 0]) := envD_call rfl rfl as
theorem c_item : (Cd (d + 1)).call 24 as = runD (Cd d) f_Reading_item (arrW as [.ix 0]) := envD_call rfl rfl as
theorem c_begins : (Cd (d + 1)).call 25 as = runD (Cd d) f_Reading_begins_item (arrW as [.ix 0]) := envD_call rfl rfl as
theorem c_sign : (Cd (d + 1)).call 26 as = runD (Cd d) f_Reading_sign (arrW as [.ix 0]) := envD_call rfl rfl as
theorem c_unit : (Cd (d + 1)).call 27 as = runD (Cd d) f_Reading_unit (arrW as [.ix 0]) := envD_call rfl rfl as
@[simp] theorem mt0 : (Cd d).mt 0 0 = some 19 := by cases d <;> rfl
@[simp] theorem mt1 : (Cd d).mt 0 1 = some 21 := by cases d <;> rfl
@[simp] theorem mt2 : (Cd d).mt 0 2 = some 22 := by cases d <;> rfl
@[simp] theorem mt3 : (Cd d).mt 0 3 = some 23 := by cases d <;> rfl
@[simp] theorem mt4 : (Cd d).mt 0 4 = some 24 := by cases d <;> rfl
@[simp] theorem mt5 : (Cd d).mt 0 5 = some 25 := by cases d <;> rfl
@[simp] theorem mt6 : (Cd d).mt 0 6 = some 26 := by cases d <;> rfl
@[simp] theorem mt7 : (Cd d).mt 0 7 = some 27 := by cases d <;> rfl
@[simp] theorem cf0 : (Cd d).cf 0 0 = true := by cases d <;> rfl
@[simp] theorem cf1 : (Cd d).cf 0 1 = true := by cases d <;> rfl
@[simp] theorem cf2 : (Cd d).cf 0 2 = true := by cases d <;> rfl
@[simp] theorem mk0 : (Cd d).mks 0 = some (0, 20) := by cases d <;> rfl
end
section
variable {L : Hh} {Q : W → Hh → Prop} {E : W → Hh → Prop} {d : Nat} {l : Nat} {x r : Txt} {n : Nat}
/-- the reader stands before r, in n parentheses -/
structure St (L : Hh) (l : Nat) (x r : Txt) (n : Nat) : Prop where
  ex : ∃ i : Nat, L[l]? = some (.ins 0 [(1, .str x), (0, .int i), (2, .int n)]) ∧ x.drop i = r ∧ i ≤ x.length
  len : lenOk x.length = true
  ok : okT x = true
theorem lenOk_le {a b : Nat} (h : lenOk b = true) (hl : a ≤ b) : lenOk a = true := by
  unfold lenOk at *
  rw [decide_eq_true_eq] at *
  omega
theorem St.lr (S : St L l x r n) : lenOk r.length = true := by
  obtain ⟨i, h1, h2, _⟩ := S.ex
  refine lenOk_le S.len ?_
  rw [← h2, List.length_drop]
  omega
theorem St.keep {L' : Hh} {m : Nat} (S : St L l x r n) (k : Keep m L L') (h : l ≠ m) : St L' l x r n := by
  obtain ⟨i, h1, h2⟩ := S.ex
  exact ⟨⟨i, k _ _ h h1, h2⟩, S.len, S.ok⟩
theorem okT_drop {t : Txt} (h : okT t = true) (i : Nat) : okT (t.drop i) = true := by
  simp only [okT, List.all_eq_true, decide_eq_true_eq] at *
  exact fun c hc => h c (List.mem_of_mem_drop hc)
theorem okT_take {t : Txt} (h : okT t = true) (i : Nat) : okT (t.take i) = true := by
  simp only [okT, List.all_eq_true, decide_eq_true_eq] at *
  exact fun c hc => h c (List.mem_of_mem_take hc)
theorem St.okr (S : St L l x r n) : okT r = true := by
  obtain ⟨i, h1, h2, _⟩ := S.ex
  rw [← h2]
  exact okT_drop S.ok i
theorem St.ok1 (S : St L l x r n) : okT (r.take 1) = true := okT_take S.okr 1
theorem cut1 (x : Txt) (i : Nat) (h : i ≤ x.length) : cutL x (some (i : Int)) (some ((i : Int) + 1)) = (x.drop i).take 1 := by
  have e1 : HT.sIx x.length 0 (some (i : Int)) = i := by
    unfold HT.sIx
    simp
    split <;> omega
  have e2 : HT.sIx x.length x.length (some ((i : Int) + 1)) = min (i + 1) x.length := by unfold HT.sIx; simp; omega
  unfold cutL cutI
  simp only [e1, e2]
  by_cases h2 : i < x.length
  · rw [Nat.min_eq_left (by omega)]
    congr 1
    omega
  · rw [Nat.min_eq_right (by omega)]
    rw [List.drop_of_length_le (by omega)]
    simp
theorem sign_ok (S : St L l x r n) (hq : Q (.str (r.take 1)) L) : wp (runD (Cd d) f_Reading_sign [.ref l]) L Q E := by
  obtain ⟨i, h1, h2, h3⟩ := S.ex
  refine wp_runD (by simp [f_Reading_sign]) ?_
  simp [f_Reading_sign, h1, getFld]
  show wp (if lenOk x.length then ret (W.str (cutL x (some (i : Int)) (some ((i : Int) + 1)))) else fail) L _ _
  rw [if_pos S.len, cut1 x i h3, h2]
  exact hq
theorem take_ok {c : Nat} (S : St L l x (c :: r) n) (hq : ∀ L', St L' l x r n → Keep l L L' → Q (.str [c]) L') : wp (runD (Cd d) f_Reading_take [.ref l]) L Q E := by
  obtain ⟨i, h1, h2, h3⟩ := S.ex
  have hi : i < x.length := by
    have := congrArg List.length h2
    rw [List.length_drop] at this
    simp at this
    omega
  have hc : x[i]? = some c := by
    have := congrArg (fun t => t[0]?) h2
    simpa using this
  have hd : x.drop (i + 1) = r := by
    rw [← List.drop_drop, h2]
    rfl
  refine wp_runD (by simp [f_Reading_take]) ?_
  have g := get_set h1 (o' := .ins 0 [(1, .str x), (0, .int ((i : Int) + 1)), (2, .int n)])
  simp [f_Reading_take, h1, getFld, putFld, g, S.len, atI_ofNat x i hi, hc]
  exact hq _ ⟨⟨i + 1, by simpa using g, hd, by omega⟩, S.len, S.ok⟩ (Keep.set _)
/-- the call of sign, of take -/
theorem csign (S : St L l x r n) (hq : Q (.str (r.take 1)) L) : wp ((Cd (d + 1)).call 26 [.ref l]) L Q E := by
  rw [c_sign]
  exact sign_ok S hq
theorem ctake {c : Nat} (S : St L l x (c :: r) n) (hq : ∀ L', St L' l x r n → Keep l L L' → Q (.str [c]) L') : wp ((Cd (d + 1)).call 23 [.ref l]) L Q E := by
  rw [c_take]
  exact take_ok S hq
theorem St.cls (S : St L l x r n) : clsOf L (.ref l) = some 0 := by
  obtain ⟨i, h1, h2⟩ := S.ex
  unfold clsOf
  dsimp only
  rw [h1]
abbrev small : Txt := [97, 98, 99, 100, 101, 102, 103, 104, 105, 106, 107, 108, 109, 110, 111, 112, 113, 114, 115, 116, 117, 118, 119, 120, 121, 122]
/-- an item begins -/
def bI : Txt → Bool
  | [] => false
  | c :: _ => decide (c ∈ small ++ [46, 40, 33])
theorem begins_ok (S : St L l x r n) (hq : Q (.bl (bI r)) L) : wp (runD (Cd (d + 1)) f_Reading_begins_item [.ref l]) L Q E := by
  refine wp_runD (by simp [f_Reading_begins_item]) ?_
  have lo : lenOk 29 = true := by decide
  have o1 := S.ok1
  simp [-clsOf_ref, f_Reading_begins_item, S.cls]
  refine csign S ?_
  cases r with
  | nil => simpa [bI] using hq
  | cons c r =>
    simp at o1
    simp [-clsOf_ref, o1, S.cls]
    refine csign S ?_
    simp [lo]
    simpa [bI] using hq
inductive Db | either | both | join
inductive Sg | star | plus | maybe
def Db.w : Db → Txt
  | .either => [101, 105, 116, 104, 101, 114]
  | .both => [98, 111, 116, 104]
  | .join => [106, 111, 105, 110]
def Db.s : Db → Txt
  | .either => [124]
  | .both => [38]
  | .join => []
def Db.k : Db → Nat
  | .either => 0
  | .both => 1
  | .join => 2
def Sg.w : Sg → Txt
  | .star => [115, 116, 97, 114]
  | .plus => [112, 108, 117, 115]
  | .maybe => [109, 97, 121, 98, 101]
def Sg.c : Sg → Nat
  | .star => 42
  | .plus => 43
  | .maybe => 63
inductive Pt | lt (c : Nat) | any | emp | sg (s : Sg) (p : Pt) | nt (p : Pt) | db (b : Db) (p q : Pt)
def enc : Pt → W
  | .lt c => .tup [.str [108, 101, 116, 116, 101, 114], .str [c]]
  | .any => .tup [.str [97, 110, 121]]
  | .emp => .tup [.str [101, 109, 112, 116, 121]]
  | .sg s p => .tup [.str s.w, enc p]
  | .nt p => .tup [.str [110, 111, 116], enc p]
  | .db b p q => .tup [.str b.w, enc p, enc q]
/-- one more part follows -/
def go (b : Db) (r : Txt) : Bool := match b with
  | .join => bI r
  | .both => r.take 1 == [38]
  | .either => r.take 1 == [124]
theorem goes_ok {b : Db} (S : St L l x r n) (hq : Q (.bl (go b r)) L) : wp (runD (Cd (d + 2)) f_Reading_goes_on [.ref l, .str b.w]) L Q E := by
  refine wp_runD (by simp [f_Reading_goes_on]) ?_
  have o1 := S.ok1
  cases b with
  | join =>
    simp [-clsOf_ref, f_Reading_goes_on, S.cls, Db.w]
    rw [c_begins]
    exact begins_ok S hq
  | both =>
    simp [-clsOf_ref, f_Reading_goes_on, S.cls, Db.w, List.lookup]
    refine csign S ?_
    simpa [o1, go] using hq
  | either =>
    simp [-clsOf_ref, f_Reading_goes_on, S.cls, Db.w, List.lookup]
    refine csign S ?_
    simpa [o1, go] using hq
theorem cgoes {b : Db} (S : St L l x r n) (hq : Q (.bl (go b r)) L) : wp ((Cd (d + 3)).call 22 [.ref l, .str b.w]) L Q E := by
  rw [c_goes]
  exact goes_ok S hq
/-! ### the grammar: levels 0 either, 1 both, 2 join, 3 not, 4 signs behind, 5 units; n: parentheses in each other -/
inductive Rd : Nat → Nat → Pt → Txt → Prop
  | lt {n c : Nat} (h : c ∈ small) : Rd 5 n (.lt c) [c]
  | any {n : Nat} : Rd 5 n .any [46]
  | emp {n : Nat} : Rd 5 n .emp [40, 41]
  | par {n : Nat} {p : Pt} {t : Txt} (h : Rd 0 n p t) : Rd 5 (n + 1) p (40 :: (t ++ [41]))
  | up4 {n : Nat} {p : Pt} {t : Txt} (h : Rd 5 n p t) : Rd 4 n p t
  | sg {n : Nat} {p : Pt} {t : Txt} (s : Sg) (h : Rd 4 n p t) : Rd 4 n (.sg s p) (t ++ [s.c])
  | up3 {n : Nat} {p : Pt} {t : Txt} (h : Rd 4 n p t) : Rd 3 n p t
  | nt {n : Nat} {p : Pt} {t : Txt} (h : Rd 3 n p t) : Rd 3 n (.nt p) (33 :: t)
  | up {n : Nat} {p : Pt} {t : Txt} (b : Db) (h : Rd (b.k + 1) n p t) : Rd b.k n p t
  | db {n : Nat} {p q : Pt} {t u : Txt} (b : Db) (h : Rd b.k n p t) (g : Rd (b.k + 1) n q u) : Rd b.k n (.db b p q) (t ++ (b.s ++ u))
def hdP (t : Txt) (P : Nat → Prop) : Prop := match t with
  | [] => False
  | c :: _ => P c
theorem Rd.head {lv n : Nat} {p : Pt} {t : Txt} (h : Rd lv n p t) : hdP t fun c => c ∈ small ++ [46, 40] ∨ (lv ≤ 3 ∧ c = 33) := by
  have app : ∀ {t u : Txt} {P P' : Nat → Prop}, hdP t P → (∀ c, P c → P' c) → hdP (t ++ u) P' := fun {t u P P'} h k => by
    cases t with
    | nil => exact h.elim
    | cons c t => exact k c h
  have imp : ∀ {t : Txt} {P P' : Nat → Prop}, hdP t P → (∀ c, P c → P' c) → hdP t P' := fun {t P P'} h k => by
    cases t with
    | nil => exact h.elim
    | cons c t => exact k c h
  induction h with
  | lt h => exact .inl (List.mem_append_left _ h)
  | any => exact .inl (by simp)
  | emp => exact .inl (by simp)
  | par h _ => exact .inl (by simp)
  | up4 h ih => exact imp ih fun c hc => hc.elim .inl fun z => by omega
  | sg s h ih => exact app ih fun c hc => hc
  | up3 h ih => exact imp ih fun c hc => hc.elim .inl fun z => by omega
  | nt h ih => exact .inr ⟨by omega, rfl⟩
  | up b h ih => exact imp ih fun c hc => hc.elim .inl fun z => .inr ⟨by omega, z.2⟩
  | db b h g ih _ => exact app ih fun c hc => hc.elim .inl fun z => .inr ⟨by omega, z.2⟩
/-- what follows does not go on at the level -/
def Stop (lv : Nat) (r : Txt) : Prop := match r with
  | [] => True
  | c :: _ => c ≠ 42 ∧ c ≠ 43 ∧ c ≠ 63 ∧ (lv ≤ 2 → c ∉ small ++ [46, 40, 33]) ∧ (lv ≤ 1 → c ≠ 38) ∧ (lv ≤ 0 → c ≠ 124)
theorem Stop.mono {lv : Nat} {r : Txt} (h : Stop lv r) : Stop (lv + 1) r := by
  cases r with
  | nil => trivial
  | cons c r => exact ⟨h.1, h.2.1, h.2.2.1, fun z => h.2.2.2.1 (by omega), fun z => h.2.2.2.2.1 (by omega), fun z => h.2.2.2.2.2 (by omega)⟩
theorem Stop.go {b : Db} {r : Txt} (h : Stop b.k r) : go b r = false := by
  cases r with
  | nil => cases b <;> rfl
  | cons c r =>
    cases b with
    | join => exact decide_eq_false (h.2.2.2.1 (by decide))
    | both =>
      have := h.2.2.2.2.1 (by decide)
      simpa [Q.go] using this
    | either =>
      have := h.2.2.2.2.2 (by decide)
      simpa [Q.go] using this
end
end Q

set_option maxRecDepth 100000
set_option maxHeartbeats 4000000
/-! P14b: a text of the grammar is read. -/
namespace Q
open PySem Dx
def nT : Tx := .bv (.cmp .eq (.mcall 6 (.var 0) [] []) (.ks [33]))
def nS : List Sm := [.exp (.mcall 3 (.var 0) [] []), .aug 1 .add (.ki 1)]
def iT : Tx := .all [(.bv (.cmp .ne (.mcall 6 (.var 0) [] []) (.ks []))), (.bv (.cmp .inn (.mcall 6 (.var 0) [] []) (.ks [42, 43, 63])))]
def iS : List Sm := [.asg (.nm 2) (.tup [(.sub (.dsp [(.ks [42]), (.ks [115, 116, 97, 114]), (.ks [43]), (.ks [112, 108, 117, 115]), (.ks [63]), (.ks [109, 97, 121, 98, 101])]) (.mcall 3 (.var 0) [] [])), (.var 2)])]
def fS : List Sm := [.asg (.nm 2) (.tup [(.ks [110, 111, 116]), (.var 2)])]
theorem item_eq : f_Reading_item = ⟨4, [.asg (.nm 1) (.ki 0), .whl nT nS, .asg (.nm 2) (.mcall 7 (.var 0) [] []), .whl iT iS, .fors (.nm 3) (.rng [(.var 1)]) fS, .rtn (.var 2)]⟩ := rfl
def dT : Tx := .val (.mcall 2 (.var 0) [(.var 2)] [])
def dS : List Sm := [.ifs (.bv (.cmp .ne (.var 2) (.ks [106, 111, 105, 110]))) [.exp (.mcall 3 (.var 0) [] [])] [], .asg (.nm 3) (.tup [(.var 2), (.var 3), (.mcall 1 (.var 0) [(.var 1)] [])])]
theorem dbl_eq : f_Reading_double = ⟨4, [.asg (.nm 2) (.sub (.tup [(.ks [101, 105, 116, 104, 101, 114]), (.ks [98, 111, 116, 104]), (.ks [106, 111, 105, 110])]) (.var 1)), .asg (.nm 3) (.mcall 1 (.var 0) [(.var 1)] []), .whl dT dS, .rtn (.var 3)]⟩ := rfl
section
variable {L : Hh} {d : Nat} {l : Nat} {x r : Txt} {m : Nat}
abbrev FQ : Type := Fl × Fr → Hh → Prop
abbrev nC (d : Nat) : Fr → M Bool := fun ρ => evT (Cd d) ρ nT
abbrev nB (d : Nat) : Fr → M (Fl × Fr) := fun ρ => exSs (Cd d) nS ρ
abbrev iC (d : Nat) : Fr → M Bool := fun ρ => evT (Cd d) ρ iT
abbrev iB (d : Nat) : Fr → M (Fl × Fr) := fun ρ => exSs (Cd d) iS ρ
abbrev dC (d : Nat) : Fr → M Bool := fun ρ => evT (Cd d) ρ dT
abbrev dB (d : Nat) : Fr → M (Fl × Fr) := fun ρ => exSs (Cd d) dS ρ
theorem nots_ok {Q : FQ} {E : W → Hh → Prop} (F : Nat) (hr : ∀ c, r.head? = some c → c ≠ 33) : ∀ (j : Nat) (i : Int) (L : Hh), St L l x (List.replicate j 33 ++ r) m →
    (∀ L', St L' l x r m → Keep l L L' → Q (.nx, [some (.ref l), some (.int (i + j)), none, none]) L') → wp (loopW (nC (d + 1)) (nB (d + 1)) (F + j + 1) [some (.ref l), some (.int i), none, none]) L Q E
  | 0, i, L, S, hq => by
    have S : St L l x r m := by simpa using S
    have o1 := S.ok1
    rw [loopW_step]
    simp [-clsOf_ref, nC, nB, nT, S.cls]
    refine csign S ?_
    have e : (r.take 1 == [33]) = false := by
      cases r with
      | nil => rfl
      | cons c r =>
        have := hr c rfl
        simpa using this
    simp [o1, e]
    simpa using hq L S (Keep.refl l L)
  | j + 1, i, L, S, hq => by
    have S : St L l x (33 :: (List.replicate j 33 ++ r)) m := by simpa [List.replicate_succ] using S
    have o1 := S.ok1
    rw [show F + (j + 1) + 1 = (F + j + 1) + 1 by omega, loopW_step]
    simp [-clsOf_ref, nC, nB, nT, nS, S.cls]
    refine csign S ?_
    simp [-clsOf_ref, S.cls]
    refine ctake S fun L1 S1 k1 => ?_
    refine nots_ok F hr j (i + 1) L1 S1 fun L2 S2 k2 => ?_
    have := hq L2 S2 (k1.trans k2)
    rw [show i + 1 + (j : Int) = i + ((j : Int) + 1) by omega]
    simpa using this
/-- one sign behind -/
theorem sg_step {s : Sg} {Q : FQ} {E : W → Hh → Prop} {F : Nat} {a : Option W} {w : W} (S : St L l x (s.c :: r) m)
    (hq : ∀ L', St L' l x r m → Keep l L L' → wp (loopW (iC (d + 1)) (iB (d + 1)) F [some (.ref l), a, some (.tup [.str s.w, w]), none]) L' Q E) : wp (loopW (iC (d + 1)) (iB (d + 1)) (F + 1) [some (.ref l), a, some w, none]) L Q E := by
  have o1 := S.ok1
  rw [loopW_step]
  simp [-clsOf_ref, iC, iB, iT, iS, S.cls]
  refine csign S ?_
  simp at o1
  have hm : s.c ∈ [42, 43, 63] := by cases s <;> decide
  simp [-clsOf_ref, o1, S.cls]
  refine csign S ?_
  have hl : l ≠ L.length := fun z => by
    obtain ⟨i, h1, _⟩ := S.ex
    have := lt_of_get h1
    omega
  have S1 : St (L ++ [O.dct false [(Ky.s [42], W.str [115, 116, 97, 114]), (Ky.s [43], W.str [112, 108, 117, 115]), (Ky.s [63], W.str [109, 97, 121, 98, 101])]]) l x (s.c :: r) m := S.keep (m := L.length + 1) (fun j o h e => get_old e) (by have := hl; obtain ⟨i, h1, _⟩ := S.ex; have := lt_of_get h1; omega)
  have ed : dPut (dPut (dPut [] (Ky.s [42]) (W.str [115, 116, 97, 114])) (Ky.s [43]) (W.str [112, 108, 117, 115])) (Ky.s [63]) (W.str [109, 97, 121, 98, 101]) = [(Ky.s [42], W.str [115, 116, 97, 114]), (Ky.s [43], W.str [112, 108, 117, 115]), (Ky.s [63], W.str [109, 97, 121, 98, 101])] := rfl
  simp at hm
  have k0 : keyFit false (.str [42]) = some (.s [42]) := rfl
  have k1 : keyFit false (.str [43]) = some (.s [43]) := rfl
  have k2 : keyFit false (.str [63]) = some (.s [63]) := rfl
  simp [-clsOf_ref, hm, k0, k1, k2, ed, S1.cls]
  refine ctake S1 fun L2 S2 kk2 => ?_
  have g : L2[L.length]? = some (O.dct false [(Ky.s [42], W.str [115, 116, 97, 114]), (Ky.s [43], W.str [112, 108, 117, 115]), (Ky.s [63], W.str [109, 97, 121, 98, 101])]) := kk2 _ _ (Ne.symm hl) get_new
  rw [wp_itemD g]
  have kk : Keep l L L2 := (Keep.app _).trans kk2
  have lo : lenOk 2 = true := by decide
  have q := hq L2 S2 kk
  cases s with
  | star =>
    have e1 : keyFit false (.str [Sg.star.c]) = some (.s [42]) := rfl
    rw [e1]
    have e2 : dGet [(Ky.s [42], W.str [115, 116, 97, 114]), (Ky.s [43], W.str [112, 108, 117, 115]), (Ky.s [63], W.str [109, 97, 121, 98, 101])] (Ky.s [42]) = some (W.str [115, 116, 97, 114]) := rfl
    simp [e2, lo]
    simpa [Sg.w] using q
  | plus =>
    have e1 : keyFit false (.str [Sg.plus.c]) = some (.s [43]) := rfl
    rw [e1]
    have e2 : dGet [(Ky.s [42], W.str [115, 116, 97, 114]), (Ky.s [43], W.str [112, 108, 117, 115]), (Ky.s [63], W.str [109, 97, 121, 98, 101])] (Ky.s [43]) = some (W.str [112, 108, 117, 115]) := rfl
    simp [e2, lo]
    simpa [Sg.w] using q
  | maybe =>
    have e1 : keyFit false (.str [Sg.maybe.c]) = some (.s [63]) := rfl
    rw [e1]
    have e2 : dGet [(Ky.s [42], W.str [115, 116, 97, 114]), (Ky.s [43], W.str [112, 108, 117, 115]), (Ky.s [63], W.str [109, 97, 121, 98, 101])] (Ky.s [63]) = some (W.str [109, 97, 121, 98, 101]) := rfl
    simp [e2, lo]
    simpa [Sg.w] using q
/-- no sign behind -/
theorem sg_end {Q : FQ} {E : W → Hh → Prop} {F : Nat} {a w : W} (S : St L l x r m) (h : Stop 3 r) (hq : Q (.nx, [some (.ref l), some a, some w, none]) L) : wp (loopW (iC (d + 1)) (iB (d + 1)) (F + 1) [some (.ref l), some a, some w, none]) L Q E := by
  have o1 := S.ok1
  rw [loopW_step]
  simp [-clsOf_ref, iC, iB, iT, iS, S.cls]
  refine csign S ?_
  cases r with
  | nil => simpa using hq
  | cons c r =>
    simp at o1
    simp [-clsOf_ref, o1, S.cls]
    refine csign S ?_
    have h1 := h.1
    have h2 := h.2.1
    have h3 := h.2.2.1
    simpa [h1, h2, h3] using hq
end
end Q

set_option maxRecDepth 100000
set_option maxHeartbeats 4000000
/-! P14c: a text of the grammar is read: the theorem. -/
namespace Q
open PySem Dx
theorem St.fuel {L : Hh} {l : Nat} {x r : Txt} {m : Nat} (S : St L l x r m) : r.length < 1099511627776 - 10 := by
  have := S.lr
  unfold lenOk at this
  rw [decide_eq_true_eq, sizeLine_eq] at this
  omega
def nots : Nat → Pt → Pt
  | 0, p => p
  | j + 1, p => .nt (nots j p)
abbrev RQ : Type := W → Hh → Prop
/-- read from t: p -/
def Good5 (n : Nat) (p : Pt) (t : Txt) : Prop := ∀ (d l : Nat) (x : Txt) (m : Nat) (L : Hh) (post : Txt) (Q E : RQ), 8 * n + 1 ≤ d → St L l x (t ++ post) m → m + n ≤ 39 → (∀ L', St L' l x post m → Keep l L L' → Q (enc p) L') → wp (runD (Cd d) f_Reading_unit [.ref l]) L Q E
def Good4 (n : Nat) (p : Pt) (t : Txt) : Prop := ∃ k, k ≤ t.length ∧ ∀ (d l : Nat) (x : Txt) (m : Nat) (L : Hh) (post : Txt) (Q : FQ) (E E' : RQ) (F : Nat) (a : Option W), 8 * n + 1 ≤ d → St L l x (t ++ post) m → m + n ≤ 39 →
  (∀ L', St L' l x post m → Keep l L L' → wp (loopW (iC (d + 1)) (iB (d + 1)) F [some (.ref l), a, some (enc p), none]) L' Q E) → wp ((Cd (d + 1)).call 27 [.ref l]) L (fun w L1 => wp (loopW (iC (d + 1)) (iB (d + 1)) (F + k) [some (.ref l), a, some w, none]) L1 Q E) E'
def Good3 (n : Nat) (p : Pt) (t : Txt) : Prop := ∃ (j : Nat) (p4 : Pt) (t4 : Txt), t = List.replicate j 33 ++ t4 ∧ p = nots j p4 ∧ hdP t4 (fun c => c ≠ 33) ∧ Good4 n p4 t4
def nd (b : Db) (n : Nat) : Nat := match b with
  | .either => 8 * n + 7
  | .both => 8 * n + 5
  | .join => 8 * n + 3
def GoodD (b : Db) (n : Nat) (p : Pt) (t : Txt) : Prop := ∃ k, k ≤ t.length ∧ ∀ (d l : Nat) (x : Txt) (m : Nat) (L : Hh) (post : Txt) (Q : FQ) (E E' : RQ) (F : Nat), nd b n ≤ d → St L l x (t ++ post) m → m + n ≤ 39 → Stop (b.k + 1) post →
  (∀ L', St L' l x post m → Keep l L L' → wp (loopW (dC (d + 1)) (dB (d + 1)) F [some (.ref l), some (.int b.k), some (.str b.w), some (enc p)]) L' Q E) → wp ((Cd (d + 1)).call 21 [.ref l, .int b.k]) L (fun w L1 => wp (loopW (dC (d + 1)) (dB (d + 1)) (F + k) [some (.ref l), some (.int b.k), some (.str b.w), some w]) L1 Q E) E'
def Good (lv n : Nat) (p : Pt) (t : Txt) : Prop := match lv with
  | 0 => GoodD .either n p t
  | 1 => GoodD .both n p t
  | 2 => GoodD .join n p t
  | 3 => Good3 n p t
  | 4 => Good4 n p t
  | _ => Good5 n p t
theorem good_k {b : Db} {n : Nat} {p : Pt} {t : Txt} : Good b.k n p t = GoodD b n p t := by cases b <;> rfl
section
variable {n : Nat} {p : Pt} {t : Txt}
theorem fors_nots {d l j : Nat} {v : W} : ∀ (N i : Nat) (p : Pt) (L : Hh) (Q : FQ) (E : RQ) (s : Option W), j - i < N → i ≤ j → (∀ s', Q (.nx, [some (.ref l), some v, some (enc (nots (j - i) p)), s']) L) →
    wp (loopF (.rng 0 j) (fun w ρ => asgT (Cd d) (.nm 3) w ρ) (fun ρ => exSs (Cd d) fS ρ) N i [some (.ref l), some v, some (enc p), s]) L Q E
  | 0, i, p, L, Q, E, s, h, _, _ => absurd h (Nat.not_lt_zero _)
  | N + 1, i, p, L, Q, E, s, h, hi, hq => by
    have lo : lenOk 2 = true := by decide
    unfold loopF
    rw [wp_gets]
    by_cases hn : i < j
    · have e : srcAt L i (.rng 0 j) = some (some (.int (0 + (i : Int)))) := by simp [srcAt, hn]
      rw [e]
      dsimp only
      rw [wp_sx]
      simp [fS, lo, wp_bnd]
      refine fors_nots N (i + 1) (.nt p) L Q E _ (by omega) hn fun s' => ?_
      have e2 : ∀ (k : Nat) (p : Pt), nots (k + 1) p = nots k (.nt p) := fun k => by
        induction k with
        | zero => intro p; rfl
        | succ k ih => intro p; exact congrArg Pt.nt (ih p)
      rw [show j - (i + 1) = j - i - 1 by omega, ← e2, show j - i - 1 + 1 = j - i by omega]
      exact hq s'
    · obtain rfl : i = j := by omega
      have e : srcAt L i (.rng 0 i) = some none := by simp [srcAt]
      rw [e]
      dsimp only
      rw [wp_ret]
      have := hq s
      rw [Nat.sub_self] at this
      exact this
theorem item_of (G : Good3 n p t) {d l : Nat} {x : Txt} {m : Nat} {L : Hh} {post : Txt} {Q E : RQ} (hd : 8 * n + 2 ≤ d) (S : St L l x (t ++ post) m) (hm : m + n ≤ 39) (hs : Stop 3 post) (hq : ∀ L', St L' l x post m → Keep l L L' → Q (enc p) L') : wp (runD (Cd d) f_Reading_item [.ref l]) L Q E := by
  obtain ⟨j, p4, t4, rfl, rfl, hh, k, hk, G⟩ := G
  obtain ⟨d, rfl⟩ : ∃ d', d = d' + 1 := ⟨d - 1, by omega⟩
  rw [item_eq]
  refine wp_runD (by simp) ?_
  have lf := S.fuel
  simp only [List.length_append, List.length_replicate] at lf
  rw [List.append_assoc] at S
  simp
  rw [show fuel = (fuel - j - 1) + j + 1 by unfold fuel; omega]
  refine nots_ok (r := t4 ++ post) (fuel - j - 1) (fun c hc => ?_) j 0 L S fun L1 S1 k1 => ?_
  · cases t4 with
    | nil => exact hh.elim
    | cons c' t4 =>
      have : c' = c := by simpa using hc
      rw [← this]
      exact hh
  · simp [-clsOf_ref, S1.cls]
    have key : ∀ (Q' : FQ) (E1 E2 : RQ), (∀ L', St L' l x post m → Keep l L1 L' → Q' (.nx, [some (.ref l), some (.int j), some (enc p4), none]) L') → wp ((Cd (d + 1)).call 27 [.ref l]) L1 (fun w L2 => wp (loopW (iC (d + 1)) (iB (d + 1)) fuel [some (.ref l), some (.int j), some w, none]) L2 Q' E1) E2 := fun Q' E1 E2 h => by
      rw [show fuel = (fuel - k - 1 + 1) + k by unfold fuel; omega]
      exact G d l x m L1 post Q' E1 E2 (fuel - k - 1 + 1) (some (.int j)) (by omega) S1 hm fun L' S' k' => sg_end S' hs (h L' S' k')
    refine key _ _ _ fun L2 S2 k2 => ?_
    have hj : smallR (j : Int) = true := by
      unfold smallR
      simp
      omega
    simp [hj]
    refine fors_nots fuel 0 p4 L2 _ _ none (by unfold fuel; omega) (Nat.zero_le _) fun s' => ?_
    rw [Nat.sub_zero]
    simp
    exact hq L2 S2 (k1.trans k2)
end
end Q

set_option maxRecDepth 100000
set_option maxHeartbeats 4000000
/-! P14d: a text of the grammar is read: the theorem. -/
namespace Q
open PySem Dx
section
variable {n : Nat} {p q : Pt} {t u : Txt} {b : Db} {L : Hh} {d l : Nat} {x r : Txt} {m : Nat}
theorem db_end {Q : FQ} {E : RQ} {F : Nat} {k w : W} (S : St L l x r m) (h : Stop b.k r) (hq : Q (.nx, [some (.ref l), some k, some (.str b.w), some w]) L) : wp (loopW (dC (d + 3)) (dB (d + 3)) (F + 1) [some (.ref l), some k, some (.str b.w), some w]) L Q E := by
  rw [loopW_step]
  simp [-clsOf_ref, dC, dB, dT, dS, S.cls]
  refine cgoes S ?_
  rw [h.go]
  simpa using hq
/-- one part more -/
theorem db_step {Q : FQ} {E : RQ} {F : Nat} {p q : Pt} (S : St L l x (b.s ++ r) m) (hg : go b (b.s ++ r) = true)
    (hc : ∀ (L1 : Hh) (Q' E' : RQ), St L1 l x r m → (∀ L2, St L2 l x post m → Keep l L1 L2 → Q' (enc q) L2) → wp ((Cd (d + 3)).call 21 [.ref l, .int b.k]) L1 Q' E')
    (hq : ∀ L', St L' l x post m → Keep l L L' → wp (loopW (dC (d + 3)) (dB (d + 3)) F [some (.ref l), some (.int b.k), some (.str b.w), some (enc (.db b p q))]) L' Q E) :
    wp (loopW (dC (d + 3)) (dB (d + 3)) (F + 1) [some (.ref l), some (.int b.k), some (.str b.w), some (enc p)]) L Q E := by
  have lo : lenOk 3 = true := by decide
  rw [loopW_step]
  simp [-clsOf_ref, dC, dB, dT, dS, S.cls]
  refine cgoes S ?_
  rw [hg]
  have fin : ∀ (L1 : Hh) (E1 : RQ), St L1 l x r m → Keep l L L1 → wp ((Cd (d + 3)).call 21 [.ref l, .int b.k]) L1 (fun w L2 => wp (loopW (dC (d + 3)) (dB (d + 3)) F [some (.ref l), some (.int b.k), some (.str b.w), some (.tup [.str b.w, enc p, w])]) L2 Q E) E1 := fun L1 E1 S1 k1 => hc L1 _ _ S1 fun L2 S2 k2 => hq L2 S2 (k1.trans k2)
  cases b with
  | join =>
    simp [-clsOf_ref, Db.w, S.cls, lo]
    exact fin L _ S (Keep.refl l L)
  | both =>
    simp [-clsOf_ref, Db.w, S.cls, lo]
    refine ctake (c := 38) (r := r) S fun L1 S1 k1 => ?_
    simp [-clsOf_ref, S1.cls, lo]
    exact fin L1 _ S1 k1
  | either =>
    simp [-clsOf_ref, Db.w, S.cls, lo]
    refine ctake (c := 124) (r := r) S fun L1 S1 k1 => ?_
    simp [-clsOf_ref, S1.cls, lo]
    exact fin L1 _ S1 k1
theorem dbl_of (G : GoodD b n p t) {post : Txt} {Q E : RQ} (hd : nd b n + 1 ≤ d) (S : St L l x (t ++ post) m) (hm : m + n ≤ 39) (hs : Stop b.k post) (hq : ∀ L', St L' l x post m → Keep l L L' → Q (enc p) L') : wp (runD (Cd d) f_Reading_double [.ref l, .int b.k]) L Q E := by
  obtain ⟨k, hk, G⟩ := G
  obtain ⟨d, rfl⟩ : ∃ d', d = d' + 3 := ⟨d - 3, by cases b <;> simp only [nd] at hd <;> omega⟩
  rw [dbl_eq]
  refine wp_runD (by simp) ?_
  have lf := S.fuel
  simp only [List.length_append] at lf
  have key : ∀ (Q' : FQ) (E1 E2 : RQ), (∀ L', St L' l x post m → Keep l L L' → Q' (.nx, [some (.ref l), some (.int b.k), some (.str b.w), some (enc p)]) L') → wp ((Cd (d + 3)).call 21 [.ref l, .int b.k]) L (fun w L2 => wp (loopW (dC (d + 3)) (dB (d + 3)) fuel [some (.ref l), some (.int b.k), some (.str b.w), some w]) L2 Q' E1) E2 := fun Q' E1 E2 h => by
    rw [show fuel = (fuel - k - 1 + 1) + k by unfold fuel; omega]
    exact G (d + 2) l x m L post Q' E1 E2 (fuel - k - 1 + 1) (by omega) S hm hs.mono fun L' S' k' => db_end S' hs (h L' S' k')
  have lo : lenOk 3 = true := by decide
  cases b with
  | either =>
    simp [-clsOf_ref, S.cls, lo, Db.k, L2.atI, L2.ixN]
    refine key _ _ _ fun L' S' k' => ?_
    simpa using hq L' S' k'
  | both =>
    simp [-clsOf_ref, S.cls, lo, Db.k, L2.atI, L2.ixN]
    refine key _ _ _ fun L' S' k' => ?_
    simpa using hq L' S' k'
  | join =>
    simp [-clsOf_ref, S.cls, lo, Db.k, L2.atI, L2.ixN]
    refine key _ _ _ fun L' S' k' => ?_
    simpa using hq L' S' k'
theorem part_of (G : Good (b.k + 1) n p t) {post : Txt} {Q E : RQ} (hd : nd b n ≤ d) (S : St L l x (t ++ post) m) (hm : m + n ≤ 39) (hs : Stop (b.k + 1) post) (hq : ∀ L', St L' l x post m → Keep l L L' → Q (enc p) L') : wp ((Cd (d + 1)).call 21 [.ref l, .int b.k]) L Q E := by
  rw [c_part]
  refine wp_runD (by simp [arrW, f_Reading_part]) ?_
  obtain ⟨d, rfl⟩ : ∃ d', d = d' + 1 := ⟨d - 1, by cases b <;> simp only [nd] at hd <;> omega⟩
  cases b with
  | join =>
    simp [-clsOf_ref, arrW, f_Reading_part, S.cls, Db.k]
    rw [c_item]
    refine item_of G (by simp only [nd] at hd; omega) S hm hs fun L' S' k' => ?_
    simpa using hq L' S' k'
  | both =>
    simp [-clsOf_ref, arrW, f_Reading_part, S.cls, Db.k]
    rw [c_double]
    refine dbl_of (b := .join) G (by simp only [nd] at hd ⊢; omega) S hm hs fun L' S' k' => ?_
    simpa using hq L' S' k'
  | either =>
    simp [-clsOf_ref, arrW, f_Reading_part, S.cls, Db.k]
    rw [c_double]
    refine dbl_of (b := .both) G (by simp only [nd] at hd ⊢; omega) S hm hs fun L' S' k' => ?_
    simpa using hq L' S' k'
/-- the sign's test of a unit passes -/
theorem unit_in {c : Nat} (hc : c ∈ small ++ [46, 40]) : c < 1114112 := by
  have : ∀ c ∈ small ++ [46, 40], c < 1114112 := by decide
  exact this c hc
def uT : Tx := .any [(.bv (.cmp .eq (.mcall 6 (.var 0) [] []) (.ks []))), (.bv (.cmp .nin (.mcall 6 (.var 0) [] []) (.bin .add (.gs ("SMALL" : PySem.Str) [97, 98, 99, 100, 101, 102, 103, 104, 105, 106, 107, 108, 109, 110, 111, 112, 113, 114, 115, 116, 117, 118, 119, 120, 121, 122]) (.ks [46, 40])))), (.all [(.bv (.cmp .eq (.mcall 6 (.var 0) [] []) (.ks [40]))), (.bv (.cmp .eq (.fld (.var 0) 2) (.gi ("MOST_NESTED" : PySem.Str) 40)))])]
theorem unit_eq : f_Reading_unit = ⟨3, [.ifs uT [.nev] [],
  .asg (.nm 1) (.mcall 3 (.var 0) [] []),
  .ifs (.bv (.cmp .ne (.var 1) (.ks [40]))) [
    .rtn (.ifx (.bv (.cmp .eq (.var 1) (.ks [46]))) (.tup [(.ks [97, 110, 121])]) (.tup [(.ks [108, 101, 116, 116, 101, 114]), (.var 1)]))] [],
  .ifs (.bv (.cmp .eq (.mcall 6 (.var 0) [] []) (.ks [41]))) [
    .exp (.mcall 3 (.var 0) [] []),
    .rtn (.tup [(.ks [101, 109, 112, 116, 121])])] [],
  .augf (.var 0) 2 .add (.ki 1),
  .asg (.nm 2) (.mcall 0 (.var 0) [(.ki 0)] []),
  .augf (.var 0) 2 .sub (.ki 1),
  .ifs (.bv (.cmp .ne (.mcall 6 (.var 0) [] []) (.ks [41]))) [
    .nev] [],
  .exp (.mcall 3 (.var 0) [] []),
  .rtn (.var 2)]⟩ := rfl
theorem uT_ok {c : Nat} {Q : Bool → Hh → Prop} {E : RQ} {a b : Option W} (S : St L l x (c :: r) m) (hc : c ∈ small ++ [46, 40]) (hm : m ≤ 39) (hq : Q false L) : wp (evT (Cd (d + 1)) [some (.ref l), a, b] uT) L Q E := by
  have o1 := S.ok1
  simp at o1
  have lo : lenOk 28 = true := by decide
  have hn : (m : Int) ≠ 40 := by omega
  have h2 : c ∈ ([97, 98, 99, 100, 101, 102, 103, 104, 105, 106, 107, 108, 109, 110, 111, 112, 113, 114, 115, 116, 117, 118, 119, 120, 121, 122, 46, 40] : List Nat) := hc
  simp [-clsOf_ref, uT, S.cls]
  refine csign S ?_
  simp [-clsOf_ref, S.cls, o1]
  refine csign S ?_
  simp [-clsOf_ref, S.cls, lo, o1, h2, -List.mem_cons]
  refine csign S ?_
  simp [-clsOf_ref, S.cls, lo, o1]
  by_cases e : c = 40
  · obtain ⟨i, g, _⟩ := S.ex
    simp [e, g, getFld, hn]
    exact hq
  · simp [e]
    exact hq
theorem unit_ok {c : Nat} {Q E : RQ} (S : St L l x (c :: r) m) (hc : c ∈ small ++ [46, 40]) (h40 : c ≠ 40) (hm : m ≤ 39) (hq : ∀ L', St L' l x r m → Keep l L L' → Q (if c = 46 then enc .any else enc (.lt c)) L') : wp (runD (Cd (d + 1)) f_Reading_unit [.ref l]) L Q E := by
  rw [unit_eq]
  refine wp_runD (by simp) ?_
  have o1 := S.ok1
  simp at o1
  have lo1 : lenOk 1 = true := by decide
  have lo2 : lenOk 2 = true := by decide
  simp [-clsOf_ref]
  refine uT_ok S hc hm ?_
  simp [-clsOf_ref, S.cls]
  refine ctake S fun L1 S1 k1 => ?_
  have z := hq L1 S1 k1
  by_cases e : c = 46
  · simp [e, h40, o1, lo1]
    simpa [e, enc] using z
  · simp [e, h40, o1, lo2]
    simpa [e, enc] using z
theorem unit_emp {Q E : RQ} (S : St L l x (40 :: 41 :: r) m) (hm : m ≤ 39) (hq : ∀ L', St L' l x r m → Keep l L L' → Q (enc .emp) L') : wp (runD (Cd (d + 1)) f_Reading_unit [.ref l]) L Q E := by
  rw [unit_eq]
  refine wp_runD (by simp) ?_
  have lo1 : lenOk 1 = true := by decide
  simp [-clsOf_ref]
  refine uT_ok S (by decide) hm ?_
  simp [-clsOf_ref, S.cls]
  refine ctake S fun L1 S1 k1 => ?_
  simp [-clsOf_ref, S1.cls]
  refine csign S1 ?_
  simp [-clsOf_ref, S1.cls]
  refine ctake S1 fun L2 S2 k2 => ?_
  simp [lo1]
  simpa [enc] using hq L2 S2 (k1.trans k2)
/-- the field nested is set -/
theorem St.nest {L : Hh} {m' : Nat} (S : St L l x r m) : ∃ i : Nat, L[l]? = some (.ins 0 [(1, .str x), (0, .int i), (2, .int m)]) ∧ St (L.set l (.ins 0 [(1, .str x), (0, .int i), (2, .int m')])) l x r m' := by
  obtain ⟨i, h1, h2⟩ := S.ex
  exact ⟨i, h1, ⟨i, get_set h1, h2⟩, S.len, S.ok⟩
theorem unit_par {Q E : RQ} (G : GoodD .either n p t) (hd : 8 * n + 8 ≤ d) (ht : hdP t fun c => c ≠ 41) (S : St L l x (40 :: (t ++ 41 :: r)) m) (hm : m + (n + 1) ≤ 39) (hq : ∀ L', St L' l x r m → Keep l L L' → Q (enc p) L') : wp (runD (Cd (d + 1)) f_Reading_unit [.ref l]) L Q E := by
  rw [unit_eq]
  refine wp_runD (by simp) ?_
  have lo1 : lenOk 1 = true := by decide
  simp [-clsOf_ref]
  refine uT_ok S (by decide) (by omega) ?_
  simp [-clsOf_ref, S.cls]
  refine ctake S fun L1 S1 k1 => ?_
  simp [-clsOf_ref, S1.cls]
  refine csign S1 ?_
  have o1 := S1.ok1
  have e1 : ((t ++ 41 :: r).take 1 == [41]) = false := by
    cases t with
    | nil => exact ht.elim
    | cons c t =>
      have : c ≠ 41 := ht
      simpa using this
  simp [-clsOf_ref, o1, e1]
  obtain ⟨i, g, S2⟩ := S1.nest (m' := m + 1)
  have g2 := get_set g (o' := .ins 0 [(1, .str x), (0, .int i), (2, .int ((m : Int) + 1))])
  have S2 : St (L1.set l (.ins 0 [(1, .str x), (0, .int i), (2, .int ((m : Int) + 1))])) l x (t ++ 41 :: r) (m + 1) := by simpa using S2
  simp [g, getFld, putFld, g2]
  rw [c_double]
  refine dbl_of (b := .either) G (by simp only [nd]; omega) S2 (by omega) ⟨by decide, by decide, by decide, fun _ => by decide, fun _ => by decide, fun _ => by decide⟩ fun L3 S3 k3 => ?_
  obtain ⟨i3, g3, S4⟩ := S3.nest (m' := m)
  have g4 := get_set g3 (o' := .ins 0 [(1, .str x), (0, .int i3), (2, .int m)])
  simp [g3, getFld, putFld, g4]
  refine csign S4 ?_
  simp [-clsOf_ref]
  have S5 := S4.cls
  simp only [clsOf_ref] at S5
  simp [S5]
  have kset : Keep l L3 (L3.set l (.ins 0 [(1, .str x), (0, .int i3), (2, .int m)])) := Keep.set _
  refine ctake S4 fun L6 S6 k6 => ?_
  exact hq L6 S6 (((k1.trans (Keep.set _)).trans k3).trans (kset.trans k6))
end
end Q

set_option maxRecDepth 100000
set_option maxHeartbeats 4000000
/-! P14e: a text of the grammar is read: the theorem. -/
namespace Q
open PySem Dx
theorem hdP.imp {t : Txt} {P P' : Nat → Prop} (h : hdP t P) (k : ∀ c, P c → P' c) : hdP t P' := by
  cases t with
  | nil => exact h.elim
  | cons c t => exact k c h
theorem rd_good {lv n : Nat} {p : Pt} {t : Txt} (h : Rd lv n p t) : Good lv n p t := by
  induction h with
  | @lt n c h =>
    show Good5 n (.lt c) [c]
    intro d l x m L post Q E hd S hm hq
    obtain ⟨d, rfl⟩ : ∃ d', d = d' + 1 := ⟨d - 1, by omega⟩
    have h1 : ∀ c ∈ small, c ≠ 40 ∧ c ≠ 46 := by decide
    refine unit_ok S (List.mem_append_left _ h) (h1 c h).1 (by omega) fun L' S' k' => ?_
    rw [if_neg (h1 c h).2]
    exact hq L' S' k'
  | @any n =>
    show Good5 n .any [46]
    intro d l x m L post Q E hd S hm hq
    obtain ⟨d, rfl⟩ : ∃ d', d = d' + 1 := ⟨d - 1, by omega⟩
    refine unit_ok S (by decide) (by decide) (by omega) fun L' S' k' => ?_
    rw [if_pos rfl]
    exact hq L' S' k'
  | @emp n =>
    show Good5 n .emp [40, 41]
    intro d l x m L post Q E hd S hm hq
    obtain ⟨d, rfl⟩ : ∃ d', d = d' + 1 := ⟨d - 1, by omega⟩
    exact unit_emp S (by omega) hq
  | @par n p t h ih =>
    show Good5 (n + 1) p (40 :: (t ++ [41]))
    intro d l x m L post Q E hd S hm hq
    obtain ⟨d, rfl⟩ : ∃ d', d = d' + 1 := ⟨d - 1, by omega⟩
    refine unit_par (n := n) ih (by omega) (h.head.imp fun c hc => ?_) (by simpa using S) (by omega) hq
    rcases hc with hc | ⟨_, rfl⟩
    · have h1 : ∀ c ∈ small ++ [46, 40], c ≠ 41 := by decide
      exact h1 c hc
    · decide
  | @up4 n p t h ih =>
    have ih : Good5 n p t := ih
    show Good4 n p t
    refine ⟨0, Nat.zero_le _, fun d l x m L post Q E E' F a hd S hm hq => ?_⟩
    rw [c_unit]
    exact ih d l x m L post _ _ hd S hm fun L' S' k' => hq L' S' k'
  | @sg n p t s h ih =>
    obtain ⟨k, hk, ih⟩ : Good4 n p t := ih
    show Good4 n (.sg s p) (t ++ [s.c])
    refine ⟨k + 1, by simp; omega, fun d l x m L post Q E E' F a hd S hm hq => ?_⟩
    rw [show F + (k + 1) = (F + 1) + k by omega]
    exact ih d l x m L (s.c :: post) Q E E' (F + 1) a hd (by simpa using S) hm fun L1 S1 k1 => sg_step S1 fun L2 S2 k2 => hq L2 S2 (k1.trans k2)
  | @up3 n p t h ih =>
    have ih : Good4 n p t := ih
    show Good3 n p t
    refine ⟨0, p, t, rfl, rfl, h.head.imp fun c hc => ?_, ih⟩
    rcases hc with hc | ⟨z, _⟩
    · have h1 : ∀ c ∈ small ++ [46, 40], c ≠ 33 := by decide
      exact h1 c hc
    · omega
  | @nt n p t h ih =>
    obtain ⟨j, p4, t4, rfl, rfl, h1, h2⟩ : Good3 n p t := ih
    exact ⟨j + 1, p4, t4, rfl, rfl, h1, h2⟩
  | @up n p t b h ih =>
    rw [good_k]
    refine ⟨0, Nat.zero_le _, fun d l x m L post Q E E' F hd S hm hs hq => ?_⟩
    exact part_of ih hd S hm hs fun L' S' k' => hq L' S' k'
  | @db n p q t u b h g ih1 ih2 =>
    rw [good_k] at ih1 ⊢
    obtain ⟨k, hk, ih1⟩ := ih1
    have hu : ∃ c u', u = c :: u' := by
      have := g.head
      cases u with
      | nil => exact this.elim
      | cons c u => exact ⟨c, u, rfl⟩
    refine ⟨k + 1, by
      obtain ⟨c, u', rfl⟩ := hu
      simp
      omega, fun d l x m L post Q E E' F hd S hm hs hq => ?_⟩
    obtain ⟨d, rfl⟩ : ∃ d', d = d' + 2 := ⟨d - 2, by cases b <;> simp only [nd] at hd <;> omega⟩
    rw [show F + (k + 1) = (F + 1) + k by omega]
    have hgs : go b (b.s ++ (u ++ post)) = true ∧ Stop (b.k + 1) (b.s ++ (u ++ post)) := by
      cases b with
      | either => exact ⟨rfl, by decide, by decide, by decide, fun _ => by decide, fun _ => by decide, fun z => absurd z (by decide)⟩
      | both => exact ⟨rfl, by decide, by decide, by decide, fun _ => by decide, fun z => absurd z (by decide), fun z => absurd z (by decide)⟩
      | join =>
        have gh := g.head
        obtain ⟨c, u', rfl⟩ := hu
        have h1 : ∀ c ∈ small ++ [46, 40, 33], c ≠ 42 ∧ c ≠ 43 ∧ c ≠ 63 := by decide
        have hc : c ∈ small ++ [46, 40, 33] := by
          rcases (show c ∈ small ++ [46, 40] ∨ _ from gh) with hc | ⟨_, rfl⟩
          · have h2 : ∀ c ∈ small ++ [46, 40], c ∈ small ++ [46, 40, 33] := by decide
            exact h2 c hc
          · decide
        exact ⟨decide_eq_true hc, (h1 c hc).1, (h1 c hc).2.1, (h1 c hc).2.2, fun z => absurd z (by decide), fun z => absurd z (by decide), fun z => absurd z (by decide)⟩
    refine ih1 (d + 2) l x m L (b.s ++ (u ++ post)) Q E E' (F + 1) hd (by simpa using S) hm hgs.2 fun L1 S1 k1 => ?_
    exact db_step (post := post) S1 hgs.1 (fun L2 Q' E' S2 h2 => part_of ih2 hd S2 hm hs h2) fun L2 S2 k2 => hq L2 S2 (k1.trans k2)
theorem Rd.okT {lv n : Nat} {p : Pt} {t : Txt} (h : Rd lv n p t) : okT t = true := by
  have app : ∀ {t u : Txt}, Dx.okT t = true → Dx.okT u = true → Dx.okT (t ++ u) = true := fun {t u} h1 h2 => by
    simp only [Dx.okT, List.all_append, Bool.and_eq_true] at *
    exact ⟨h1, h2⟩
  induction h with
  | lt h =>
    have : ∀ c ∈ small, Dx.okT [c] = true := by decide
    exact this _ h
  | any => decide
  | emp => decide
  | par h ih => exact app (t := [40]) (by decide) (app ih (by decide))
  | up4 h ih => exact ih
  | sg s h ih => exact app ih (by cases s <;> decide)
  | up3 h ih => exact ih
  | nt h ih => exact app (t := [33]) (by decide) ih
  | up b h ih => exact ih
  | db b h g ih1 ih2 => exact app ih1 (app (by cases b <;> decide) ih2)
theorem Rd.mono {lv n m : Nat} {p : Pt} {t : Txt} (h : Rd lv n p t) : n ≤ m → Rd lv m p t := by
  induction h generalizing m with
  | lt h => exact fun _ => .lt h
  | any => exact fun _ => .any
  | emp => exact fun _ => .emp
  | par h ih =>
    intro z
    obtain ⟨m, rfl⟩ : ∃ m', m = m' + 1 := ⟨m - 1, by omega⟩
    exact .par (ih (by omega))
  | up4 h ih => exact fun z => .up4 (ih z)
  | sg s h ih => exact fun z => .sg s (ih z)
  | up3 h ih => exact fun z => .up3 (ih z)
  | nt h ih => exact fun z => .nt (ih z)
  | up b h ih => exact fun z => .up b (ih z)
  | db b h g ih1 ih2 => exact fun z => .db b (ih1 z) (ih2 z)
end Q

set_option maxRecDepth 100000
set_option maxHeartbeats 4000000
/-! P14f: is_pattern, read_pattern. -/
namespace Q
open PySem Dx
/-- what was there is there -/
def Ext (L L' : Hh) : Prop := ∀ (j : Nat) (o : O), L[j]? = some o → L'[j]? = some o
theorem Ext.refl (L : Hh) : Ext L L := fun _ _ e => e
theorem Ext.trans {L L1 L2 : Hh} (a : Ext L L1) (b : Ext L1 L2) : Ext L L2 := fun j o e => b j o (a j o e)
theorem Ext.app {L : Hh} (os : List O) : Ext L (L ++ os) := fun j o e => by rw [List.getElem?_append_left (lt_of_get e)]; exact e
theorem Ext.len {L L' : Hh} (h : Ext L L') : L.length ≤ L'.length := by
  rcases Nat.eq_zero_or_pos L.length with z | z
  · omega
  · have e : L[L.length - 1]? = some L[L.length - 1] := List.getElem?_eq_getElem (by omega)
    have := lt_of_get (h _ _ e)
    omega
theorem Keep.ext {L L1 L' : Hh} {l : Nat} (a : Ext L L1) (k : Keep l L1 L') (h : L.length ≤ l) : Ext L L' := fun j o e => k j o (by have := lt_of_get e; omega) (a j o e)
def ht : Pt → Nat
  | .lt _ => 1
  | .any => 1
  | .emp => 1
  | .sg _ p => ht p + 1
  | .nt p => ht p + 1
  | .db _ p q => max (ht p) (ht q) + 1
def sz : Pt → Nat
  | .lt _ => 1
  | .any => 1
  | .emp => 1
  | .sg _ p => sz p + 1
  | .nt p => sz p + 1
  | .db _ p q => sz p + sz q + 1
def ok : Pt → Prop
  | .lt c => c ∈ small
  | .any => True
  | .emp => True
  | .sg _ p => ok p
  | .nt p => ok p
  | .db _ p q => ok p ∧ ok q
def kids : Pt → List Pt
  | .lt _ => []
  | .any => []
  | .emp => []
  | .sg _ p => [p]
  | .nt p => [p]
  | .db _ p q => [p, q]
theorem sz_pos (p : Pt) : 0 < sz p := by cases p <;> simp [sz]
theorem small_lt {c : Nat} (h : c ∈ small) : c < 1114112 := by
  have : ∀ c ∈ small, c < 1114112 := by decide
  exact this c h
section
variable {L : Hh} {Q E : RQ} {C : Dx.Env} {d : Nat} {p : Pt}
theorem form_ok (hp : ok p) (hq : Q (.bl true) L) : wp (runD C f_has_form [enc p]) L Q E := by
  refine wp_runD (by simp [f_has_form]) ?_
  cases p with
  | lt c =>
    have h1 := small_lt hp
    have h2 : c ∈ ([97, 98, 99, 100, 101, 102, 103, 104, 105, 106, 107, 108, 109, 110, 111, 112, 113, 114, 115, 116, 117, 118, 119, 120, 121, 122] : List Nat) := hp
    have lo : lenOk 1 = true := by decide
    simp [f_has_form, enc, isKind, typeNm, L2.atI, L2.ixN, lo, h1, h2, -List.mem_cons]
    exact hq
  | any =>
    simp [f_has_form, enc, isKind, typeNm, L2.atI, L2.ixN]
    exact hq
  | emp =>
    simp [f_has_form, enc, isKind, typeNm, L2.atI, L2.ixN]
    exact hq
  | sg s p =>
    cases s <;> (simp [f_has_form, enc, isKind, typeNm, L2.atI, L2.ixN, Sg.w]; exact hq)
  | nt p =>
    simp [f_has_form, enc, isKind, typeNm, L2.atI, L2.ixN]
    exact hq
  | db b p q =>
    cases b <;> (simp [f_has_form, enc, isKind, typeNm, L2.atI, L2.ixN, Db.w]; exact hq)
theorem inside_ok (hq : Q (.ref L.length) (L ++ [.lst ((kids p).map enc)])) : wp (runD C f_inside [enc p]) L Q E := by
  refine wp_runD (by simp [f_inside]) ?_
  have l0 : lenOk 0 = true := by decide
  have sl : ∀ (ws : List W) (Q : RQ) (E : RQ), wp (sliceOf (.tup ws) (some 1) none) L Q E = Q (.tup (cutL ws (some 1) none)) L := fun ws Q E => rfl
  have li : ∀ (ws : List W) (Q : RQ) (E : RQ), wp (callB .listf [.tup ws]) L Q E = Q (.ref L.length) (L ++ [.lst ws]) := fun ws Q E => rfl
  cases p with
  | lt c =>
    simp [f_inside, enc, L2.atI, L2.ixN, l0]
    exact hq
  | any =>
    simp [f_inside, enc, L2.atI, L2.ixN, l0, sl, li]
    exact hq
  | emp =>
    simp [f_inside, enc, L2.atI, L2.ixN, l0, sl, li]
    exact hq
  | sg s p =>
    cases s <;> (simp [f_inside, enc, L2.atI, L2.ixN, l0, sl, li, Sg.w]; exact hq)
  | nt p =>
    simp [f_inside, enc, L2.atI, L2.ixN, l0, sl, li]
    exact hq
  | db b p q =>
    cases b <;> (simp [f_inside, enc, L2.atI, L2.ixN, l0, sl, li, Db.w]; exact hq)
end
/-! ### as data -/
def encD : Pt → PyData
  | .lt c => .tuple [.str ⟨[108, 101, 116, 116, 101, 114].toArray⟩, .str ⟨[c].toArray⟩]
  | .any => .tuple [.str ⟨[97, 110, 121].toArray⟩]
  | .emp => .tuple [.str ⟨[101, 109, 112, 116, 121].toArray⟩]
  | .sg s p => .tuple [.str ⟨s.w.toArray⟩, encD p]
  | .nt p => .tuple [.str ⟨[110, 111, 116].toArray⟩, encD p]
  | .db b p q => .tuple [.str ⟨b.w.toArray⟩, encD p, encD q]
theorem asData_str {L : Hh} {n : Nat} {t : Txt} : asData L n (.str t) = some (.str ⟨t.toArray⟩) := by cases n <;> rfl
theorem asData_tup {L : Hh} {n : Nat} {ws : List W} : asData L (n + 1) (.tup ws) = (ws.mapM (asData L n)).map PyData.tuple := rfl
theorem asData_int {L : Hh} {n : Nat} {i : Int} : asData L n (.int i) = some (.int i) := by cases n <;> rfl
theorem asData_enc {L : Hh} : ∀ (p : Pt) (n : Nat), ht p ≤ n → asData L n (enc p) = some (encD p)
  | .lt c, n, h => by
    obtain ⟨n, rfl⟩ : ∃ n', n = n' + 1 := ⟨n - 1, by simp only [ht] at h; omega⟩
    simp [enc, encD, asData_tup, asData_str]
  | .any, n, h => by
    obtain ⟨n, rfl⟩ : ∃ n', n = n' + 1 := ⟨n - 1, by simp only [ht] at h; omega⟩
    simp [enc, encD, asData_tup, asData_str]
  | .emp, n, h => by
    obtain ⟨n, rfl⟩ : ∃ n', n = n' + 1 := ⟨n - 1, by simp only [ht] at h; omega⟩
    simp [enc, encD, asData_tup, asData_str]
  | .sg s p, n, h => by
    obtain ⟨n, rfl⟩ : ∃ n', n = n' + 1 := ⟨n - 1, by simp only [ht] at h; omega⟩
    simp only [ht] at h
    simp [enc, encD, asData_tup, asData_str, asData_enc p n (by omega)]
  | .nt p, n, h => by
    obtain ⟨n, rfl⟩ : ∃ n', n = n' + 1 := ⟨n - 1, by simp only [ht] at h; omega⟩
    simp only [ht] at h
    simp [enc, encD, asData_tup, asData_str, asData_enc p n (by omega)]
  | .db b p q, n, h => by
    obtain ⟨n, rfl⟩ : ∃ n', n = n' + 1 := ⟨n - 1, by simp only [ht] at h; omega⟩
    simp only [ht] at h
    simp [enc, encD, asData_tup, asData_str, asData_enc p n (by omega), asData_enc q n (by omega)]
theorem lay_str {t : Txt} (h : okT t = true) : PyData.canLay0 (.str ⟨t.toArray⟩) = true := by
  have := shaped_str h
  unfold SeqAt.shaped at this
  exact (Bool.and_eq_true_iff.mp this).1
theorem strOk_of {t : Txt} (h : okT t = true) : PyData.strOk ⟨t.toArray⟩ = true := by
  have := lay_str h
  simpa [PyData.canLay0] using this
theorem lay_enc : ∀ p : Pt, ok p → PyData.canLay0 (encD p) = true
  | .lt c, h => by
    have h1 : okT [c] = true := by simp [small_lt h]
    simp [encD, PyData.canLay0, PyData.canLayAll0, lay_str, PyData.strOk, small_lt h]
  | .any, h => by
    simp [encD, PyData.canLay0, PyData.canLayAll0]
    exact strOk_of (t := [97, 110, 121]) (by decide)
  | .emp, h => by
    simp [encD, PyData.canLay0, PyData.canLayAll0]
    exact strOk_of (t := [101, 109, 112, 116, 121]) (by decide)
  | .sg s p, h => by
    have : PyData.canLay0 (.str ⟨s.w.toArray⟩) = true := lay_str (by cases s <;> decide)
    simp [encD, PyData.canLay0, PyData.canLayAll0, lay_enc p h]
    simpa [PyData.canLay0] using this
  | .nt p, h => by
    simp [encD, PyData.canLay0, PyData.canLayAll0, lay_enc p h]
    exact strOk_of (t := [110, 111, 116]) (by decide)
  | .db b p q, h => by
    have : PyData.canLay0 (.str ⟨b.w.toArray⟩) = true := lay_str (by cases b <;> decide)
    simp [encD, PyData.canLay0, PyData.canLayAll0, lay_enc p h.1, lay_enc q h.2]
    simpa [PyData.canLay0] using this
theorem dep_enc : ∀ p : Pt, PyData.depth (encD p) ≤ ht p
  | .lt c => by simp [encD, PyData.depth, PyData.depthAll, ht]
  | .any => by simp [encD, PyData.depth, PyData.depthAll, ht]
  | .emp => by simp [encD, PyData.depth, PyData.depthAll, ht]
  | .sg s p => by
    have := dep_enc p
    simp [encD, PyData.depth, PyData.depthAll, ht]
    omega
  | .nt p => by
    have := dep_enc p
    simp [encD, PyData.depth, PyData.depthAll, ht]
    omega
  | .db b p q => by
    have := dep_enc p
    have := dep_enc q
    simp [encD, PyData.depth, PyData.depthAll, ht]
    omega
/-- the waiting ones -/
def stW (st : List (Pt × Nat)) : List W := st.map fun q => .tup [enc q.1, .int q.2]
def stD (st : List (Pt × Nat)) : List PyData := st.map fun q => .tuple [encD q.1, .int q.2]
theorem stD_ok {L : Hh} : ∀ {st : List (Pt × Nat)}, (∀ q ∈ st, ok q.1 ∧ ht q.1 ≤ 60) → (stW st).mapM (asData L 63) = some (stD st) ∧ PyData.canLayAll0 (stD st) = true ∧ PyData.depthAll (stD st) ≤ 61
  | [], _ => ⟨rfl, rfl, by simp [stD, PyData.depthAll]⟩
  | q :: st, h => by
    obtain ⟨i1, i2, i3⟩ := stD_ok (L := L) (st := st) fun z hz => h z (by simp [hz])
    obtain ⟨k1, k2⟩ := h q (by simp)
    have d1 := dep_enc q.1
    refine ⟨?_, ?_, ?_⟩
    · show ((W.tup [enc q.1, .int q.2]) :: stW st).mapM (asData L 63) = _
      rw [List.mapM_cons, i1]
      have : asData L 63 (.tup [enc q.1, .int q.2]) = some (.tuple [encD q.1, .int q.2]) := by
        rw [asData_tup]
        simp [asData_enc q.1 62 (by omega), asData_int]
      rw [this]
      rfl
    · show PyData.canLayAll0 (.tuple [encD q.1, .int q.2] :: stD st) = true
      simp [PyData.canLayAll0, PyData.canLay0, lay_enc q.1 k1, i2]
    · show PyData.depthAll (.tuple [encD q.1, .int q.2] :: stD st) ≤ 61
      have e : PyData.depthAll (.tuple [encD q.1, .int q.2] :: stD st) = max (max (PyData.depth (encD q.1)) (max 0 0) + 1) (PyData.depthAll (stD st)) := by
        simp only [PyData.depthAll, PyData.depth]
      rw [e]
      omega
theorem ne_empty {L : Hh} {Q E : RQ} {a b : Nat} {st : List (Pt × Nat)} (ha : L[a]? = some (.lst (stW st))) (hb : L[b]? = some (.lst [])) (h : ∀ q ∈ st, ok q.1 ∧ ht q.1 ≤ 60) (hq : Q (.bl (!st.isEmpty)) L) : wp (cmpop .ne (.ref a) (.ref b)) L Q E := by
  obtain ⟨i1, i2, i3⟩ := stD_ok (L := L) h
  rw [wp_neq]
  have e1 : asData L 64 (.ref a) = some (.list (stD st)) := by
    show (match L[a]? with
    | some (.lst ws) => (ws.mapM (asData L 63)).map PyData.list
    | some (.ro ws) => (ws.mapM (asData L 63)).map PyData.list
    | _ => none) = _
    rw [ha]
    simp [i1]
  have e2 : asData L 64 (.ref b) = some (.list []) := by
    show (match L[b]? with
    | some (.lst ws) => (ws.mapM (asData L 63)).map PyData.list
    | some (.ro ws) => (ws.mapM (asData L 63)).map PyData.list
    | _ => none) = _
    rw [hb]
    rfl
  rw [e1, e2]
  have s1 : SeqAt.shaped (.list (stD st)) = true := by
    have e : PyData.depth (.list (stD st)) = PyData.depthAll (stD st) + 1 := by rw [PyData.depth]
    unfold SeqAt.shaped
    rw [Bool.and_eq_true, decide_eq_true_eq, e]
    exact ⟨by rw [PyData.canLay0]; exact i2, by omega⟩
  have s2 : SeqAt.shaped (.list []) = true := by decide
  have e3 : PyData.eqv (.list (stD st)) (.list []) = st.isEmpty := by
    cases st with
    | nil => rfl
    | cons q st => simp [stD, PyData.eqv, PyData.eqvAll]
  simp only [s1, s2, Bool.and_self, if_true, e3]
  exact hq
/-- while waiting != [] .. -/
def wT : Tx := .bv (.cmp .ne (.var 1) (.lst []))
def wS : List Sm := [
    .asg (.tup [(.nm 3), (.nm 4)]) (.met .pop (.var 1) []),
    .aug 2 .add (.ki 1),
    .ifs (.any [(.bv (.cmp .gt (.var 4) (.gi ("MOST_DEPTH" : PySem.Str) 12))), (.bv (.cmp .gt (.var 2) (.gi ("MOST_TUPLES" : PySem.Str) 40))), (.nt (.val (.call 15 [(.var 3)] [])))]) [
      .rtn (.kb false)] [],
    .aug 1 .add (.lc [(("one" : PySem.Str), 5)] (.nm 5) (.e (.call 16 [(.var 3)] [])) [] (.tup [(.var 5), (.bin .add (.var 4) (.ki 1))]))]
theorem isp_eq : f_is_pattern = ⟨6, [.asg (.tup [(.nm 1), (.nm 2)]) (.tup [(.lst [(.tup [(.var 0), (.ki 1)])]), (.ki 0)]), .whl wT wS, .rtn (.kb true)]⟩ := rfl
theorem c_form (d : Nat) (as : List W) : (Cd (d + 1)).call 15 as = runD (Cd d) f_has_form (arrW as [.ix 0]) := envD_call rfl rfl as
theorem c_inside (d : Nat) (as : List W) : (Cd (d + 1)).call 16 as = runD (Cd d) f_inside (arrW as [.ix 0]) := envD_call rfl rfl as
def szs (st : List (Pt × Nat)) : Nat := (st.map fun q => sz q.1).sum
theorem kids_sz (p : Pt) : ((kids p).map sz).sum + 1 = sz p := by cases p <;> simp [kids, sz] <;> omega
theorem kids_ht {p q : Pt} (h : q ∈ kids p) : ht q + 1 ≤ ht p := by
  cases p <;> simp [kids] at h <;> simp only [ht]
  · subst h; omega
  · subst h; omega
  · rcases h with rfl | rfl <;> omega
theorem kids_ok {p q : Pt} (hp : ok p) (h : q ∈ kids p) : ok q := by
  cases p <;> simp [kids] at h <;> simp only [ok] at hp
  · subst h; exact hp
  · subst h; exact hp
  · rcases h with rfl | rfl
    · exact hp.1
    · exact hp.2
theorem kids_len (p : Pt) : (kids p).length ≤ 2 := by cases p <;> simp [kids]
theorem szs_app (a b : List (Pt × Nat)) : szs (a ++ b) = szs a + szs b := by simp [szs]
theorem len_szs : ∀ st : List (Pt × Nat), st.length ≤ szs st
  | [] => Nat.zero_le _
  | z :: st => by
    have h := sz_pos z.1
    have ih := len_szs st
    simp only [szs, List.map_cons, List.sum_cons, List.length_cons] at *
    omega
theorem wp_popL {L : Hh} {Q E : RQ} {a : Nat} {ws : List W} {w : W} (h : L[a]? = some (.lst (ws ++ [w]))) (hq : Q w (L.set a (.lst ws))) : wp (callM .pop (.ref a) []) L Q E := by
  show wp (match L[a]? with
    | some (.lst ws) => (match ws.getLast? with
      | some w => bnd (put a (.lst ws.dropLast)) fun _ => ret w
      | none => fail)
    | _ => fail) L Q E
  rw [h]
  simp
  exact hq
theorem wp_iaddL {L : Hh} {Q E : RQ} {a b : Nat} {xs ys : List W} (h : L[a]? = some (.lst xs)) (h2 : L[b]? = some (.lst ys)) (h3 : lenOk (xs.length + ys.length) = true) (hq : Q (.ref a) (L.set a (.lst (xs ++ ys)))) : wp (iop .add (.ref a) (.ref b)) L Q E := by
  show wp (match L[a]?, L[b]? with
    | some (.lst x), some (.lst y) => if lenOk (x.length + y.length) then bnd (put a (.lst (x ++ y))) fun _ => ret (.ref a) else fail
    | _, _ => fail) L Q E
  rw [h, h2]
  dsimp only
  rw [if_pos h3]
  exact hq
section
variable {d : Nat}
theorem isp_loop {Q : FQ} {E : RQ} {a : Nat} {w0 : Option W} : ∀ (s : Nat) (F : Nat) (st : List (Pt × Nat)) (cnt : Nat) (L : Hh) (v3 v4 v5 : Option W), szs st = s → L[a]? = some (.lst (stW st)) → (∀ q ∈ st, ok q.1 ∧ ht q.1 + q.2 ≤ 13) → cnt + s ≤ 40 →
    (∀ L' ρ, Keep a L L' → Q (.nx, ρ) L') → wp (loopW (fun ρ => evT (Cd (d + 1)) ρ wT) (fun ρ => exSs (Cd (d + 1)) wS ρ) (F + s + 1) [w0, some (.ref a), some (.int cnt), v3, v4, v5]) L Q E := by
  intro s
  induction s using Nat.strongRecOn with
  | _ s ih =>
  intro F st cnt L v3 v4 v5 hs ha hok hc hq
  have la := lt_of_get ha
  have l0 : lenOk 0 = true := by decide
  have l2 : lenOk 2 = true := by decide
  have szl : (64 : Nat) < sizeLine := by rw [sizeLine_eq]; omega
  rw [loopW_step]
  simp [wT, l0, ha, get_old ha]
  refine ne_empty (a := a) (st := st) (get_old ha) get_new (fun q hq => ⟨(hok q hq).1, by have := (hok q hq).2; omega⟩) ?_
  rcases List.eq_nil_or_concat st with rfl | ⟨st, q, rfl⟩
  · simp
    exact hq _ _ (Keep.app _)
  · rw [List.concat_eq_append] at *
    have hq1 := hok q (by simp)
    have hp := sz_pos q.1
    have hsz : szs st + sz q.1 = s := by rw [← hs, szs_app]; simp [szs]
    have est : stW (st ++ [q]) = stW st ++ [.tup [enc q.1, .int q.2]] := by simp [stW]
    rw [est] at ha
    have g1 : (L ++ [O.lst []])[a]? = some (.lst (stW st ++ [.tup [enc q.1, .int q.2]])) := get_old ha
    simp [wS, rcvOk, itemsOf, g1]
    refine wp_popL g1 ?_
    have r1 : ¬ 12 < (q.2 : Int) := by have := hq1.2; have : 1 ≤ ht q.1 := by cases q.1 <;> simp [ht]
                                       omega
    have r2 : ¬ 40 < (cnt : Int) + 1 := by omega
    simp [r1, r2, c_form, c_inside, arrW]
    refine form_ok hq1.1 ?_
    simp
    refine inside_ok ?_
    have ga : ((L ++ [O.lst []]).set a (.lst (stW st)))[a]? = some (.lst (stW st)) := get_set g1
    have kL : Keep a L ((L ++ [O.lst []]).set a (.lst (stW st))) := (Keep.app _).trans (Keep.set _)
    generalize (L ++ [O.lst []]).set a (.lst (stW st)) = L3 at ga kL ⊢
    have g4 : (L3 ++ [O.lst ((kids q.1).map enc)])[L3.length]? = some (.lst ((kids q.1).map enc)) := get_new
    have hk := kids_len q.1
    simp only [g4]
    have e1 : ((q.2 : Int) + 1) = ((q.2 + 1 : Nat) : Int) := by omega
    refine loopC_inv (n := (kids q.1).length) (fun i acc L' => L' = L3 ++ [O.lst ((kids q.1).map enc)] ∧ acc = stW (((kids q.1).take i).map fun k => (k, q.2 + 1))) (fun i acc L' hi ⟨h1, h2⟩ => ?_) (fun acc L' ⟨h1, h2⟩ => ?_) _ 0 [] _ (lt_fuel (by omega)) (Nat.zero_le _) ⟨rfl, rfl⟩
    · subst h1 h2
      refine ⟨enc (kids q.1)[i], by rw [srcAt_seq g4]; simp [hi], ?_⟩
      simp [wp_turnC, wipeF, l2]
      refine ⟨by simp [stW]; omega, ?_⟩
      rw [List.take_add_one]
      simp [stW, hi]
    · subst h1 h2
      refine ⟨by rw [srcAt_seq g4]; simp, ?_⟩
      have lz : lenOk ((stW st).length + (stW (((kids q.1).take (kids q.1).length).map fun k => (k, q.2 + 1))).length) = true := by
        have h3 := len_szs st
        unfold lenOk
        rw [decide_eq_true_eq]
        simp only [stW, List.length_map, List.length_take]
        omega
      refine wp_iaddL (get_old (get_old ga)) get_new lz ?_
      rw [show stW st ++ stW (((kids q.1).take (kids q.1).length).map fun k => (k, q.2 + 1)) = stW (st ++ (kids q.1).map fun k => (k, q.2 + 1)) by simp [stW]]
      have hs2 : szs (st ++ (kids q.1).map fun k => (k, q.2 + 1)) = s - 1 := by
        rw [szs_app]
        have := kids_sz q.1
        simp only [szs, List.map_map] at *
        have e : (List.map ((fun q : Pt × Nat => sz q.1) ∘ fun k => (k, q.2 + 1)) (kids q.1)) = (kids q.1).map sz := rfl
        rw [e]
        omega
      rw [show F + s = F + (s - 1) + 1 by omega]
      have := ih (s - 1) (by omega) F (st ++ (kids q.1).map fun k => (k, q.2 + 1)) (cnt + 1) (((L3 ++ [O.lst ((kids q.1).map enc)]) ++ [O.lst (stW (((kids q.1).take (kids q.1).length).map fun k => (k, q.2 + 1)))]).set a (.lst (stW (st ++ (kids q.1).map fun k => (k, q.2 + 1))))) (some (enc q.1)) (some (.int q.2)) v5 hs2 (get_set (get_old (get_old ga))) (fun z hz => ?_) (by omega) (fun L' ρ k => hq L' ρ (kL.trans (((Keep.app _).trans (Keep.app _)).trans ((Keep.set _).trans k))))
      · simpa [wT, wS] using this
      · rcases List.mem_append.mp hz with hz | hz
        · exact hok z (by simp [hz])
        · obtain ⟨k, hk1, rfl⟩ := List.mem_map.mp hz
          have := kids_ht hk1
          exact ⟨kids_ok hq1.1 hk1, by simp only; omega⟩
theorem isp_ok {p : Pt} {L : Hh} {Q E : RQ} (hp : ok p) (h1 : ht p ≤ 12) (h2 : sz p ≤ 40) (hq : ∀ L', Ext L L' → Q (.bl true) L') : wp (runD (Cd (d + 1)) f_is_pattern [enc p]) L Q E := by
  rw [isp_eq]
  refine wp_runD (by simp) ?_
  have l1 : lenOk 1 = true := by decide
  have l2 : lenOk 2 = true := by decide
  simp [l1, l2]
  rw [show fuel = (fuel - sz p - 1) + sz p + 1 by unfold fuel; omega]
  refine isp_loop (a := L.length) (sz p) (fuel - sz p - 1) [(p, 1)] 0 _ _ _ _ (by simp [szs]) (by simp [stW]) (fun q hq => ?_) (by omega) fun L' ρ k => ?_
  · have : q = (p, 1) := by simpa using hq
    subst this
    exact ⟨hp, by simp only; omega⟩
  · simp
    exact hq L' (Keep.ext (Ext.app _) k (Nat.le_refl _))
end
/-! ### read_pattern -/
theorem c_isp (d : Nat) (as : List W) : (Cd (d + 1)).call 13 as = runD (Cd d) f_is_pattern (arrW as [.ix 0]) := envD_call rfl rfl as
theorem read_ok {d n : Nat} {p : Pt} {t : Txt} {L : Hh} {Q E : RQ} (h : Rd 0 n p t) (hn : n ≤ 39) (hl : lenOk t.length = true) (hd : 8 * n + 12 ≤ d) (hp : ok p) (h1 : ht p ≤ 12) (h2 : sz p ≤ 40) (hq : ∀ L', Ext L L' → Q (enc p) L') : wp (runD (Cd d) f_read_pattern [.str t]) L Q E := by
  obtain ⟨d, rfl⟩ : ∃ d', d = d' + 3 := ⟨d - 3, by omega⟩
  refine wp_runD (by simp [f_read_pattern]) ?_
  have G : GoodD .either n p t := rd_good h
  simp [-clsOf_ref, f_read_pattern, isKind, typeNm]
  rw [wp_make (mk0 _)]
  rw [envD_callM, c_init]
  have e1 : ∀ (Q : RQ) (E : RQ), Q .non (L ++ [.ins 0 [(1, .str t), (0, .int 0), (2, .int 0)]]) → wp (runD (Cd (d + 1)) f_Reading_init (arrW [.ref L.length, .str t] [.ix 0, .ix 1])) (L ++ [.ins 0 []]) Q E := fun Q E hq => by
    refine wp_runD (by simp [f_Reading_init, arrW]) ?_
    have s1 : ∀ (o o' : O), (L ++ [o]).set L.length o' = L ++ [o'] := fun o o' => by simp
    simp [f_Reading_init, arrW, putFld, s1]
    exact hq
  refine e1 _ _ ?_
  have S0 : St (L ++ [.ins 0 [(1, .str t), (0, .int 0), (2, .int 0)]]) L.length t (t ++ []) 0 := ⟨⟨0, get_new, by simp, Nat.zero_le _⟩, hl, h.okT⟩
  simp [-clsOf_ref, S0.cls]
  rw [c_double]
  refine dbl_of (b := .either) G (by simp only [nd]; omega) S0 (by omega) trivial fun L1 S1 k1 => ?_
  have k2 : Ext L L1 := Keep.ext (Ext.app _) k1 (Nat.le_refl _)
  obtain ⟨i, g, hi, hi2⟩ := S1.ex
  have hi3 : ¬ (i : Int) < (t.length : Int) := by
    have := congrArg List.length hi
    simp at this
    omega
  simp [g, getFld, hl, hi3]
  rw [c_isp]
  refine isp_ok hp h1 h2 fun L2 k3 => ?_
  simp
  exact hq L2 (k2.trans k3)
end Q

set_option maxRecDepth 100000
set_option maxHeartbeats 4000000
/-! P14g: the texts that are written. -/
namespace Q
open PySem Dx
def rank : Pt → Nat
  | .db b _ _ => b.k
  | .nt _ => 3
  | .sg _ _ => 4
  | _ => 5
def par (low : Nat) (p : Pt) (t : Txt) : Txt := if low ≤ rank p then t else 40 :: (t ++ [41])
def body : Pt → Txt
  | .lt c => [c]
  | .any => [46]
  | .emp => [40, 41]
  | .sg s p => par 4 p (body p) ++ [s.c]
  | .nt p => 33 :: par 3 p (body p)
  | .db b p q => par b.k p (body p) ++ b.s ++ par (b.k + 1) q (body q)
theorem par_len (low : Nat) (p : Pt) (t : Txt) : (par low p t).length ≤ t.length + 2 := by
  unfold par
  split <;> simp
theorem body_len : ∀ p : Pt, (body p).length + 2 ≤ 4 * sz p
  | .lt c => by simp [body, sz]
  | .any => by simp [body, sz]
  | .emp => by simp [body, sz]
  | .sg s p => by
    have := body_len p
    have := par_len 4 p (body p)
    simp only [body, sz, List.length_append, List.length_cons, List.length_nil]
    omega
  | .nt p => by
    have := body_len p
    have := par_len 3 p (body p)
    simp only [body, sz, List.length_cons]
    omega
  | .db b p q => by
    have := body_len p
    have := body_len q
    have := par_len b.k p (body p)
    have := par_len (b.k + 1) q (body q)
    have : b.s.length ≤ 1 := by cases b <;> simp [Db.s]
    simp only [body, sz, List.length_append]
    omega
theorem lenOk_lt {n : Nat} (h : n < 100000) : lenOk n = true := by
  unfold lenOk
  rw [decide_eq_true_eq, sizeLine_eq]
  omega
/-- from a level to one below -/
theorem Rd.down {n : Nat} {p : Pt} {t : Txt} : ∀ {a b : Nat}, Rd a n p t → b ≤ a → a ≤ 5 → Rd b n p t := fun {a b} h hb ha => by
  have s4 : Rd 5 n p t → Rd 4 n p t := .up4
  have s3 : Rd 4 n p t → Rd 3 n p t := .up3
  have s2 : Rd 3 n p t → Rd 2 n p t := .up .join
  have s1 : Rd 2 n p t → Rd 1 n p t := .up .both
  have s0 : Rd 1 n p t → Rd 0 n p t := .up .either
  have step : ∀ c, c ≤ 4 → Rd (c + 1) n p t → Rd c n p t := fun c hc h => by
    match c, hc with
    | 0, _ => exact s0 h
    | 1, _ => exact s1 h
    | 2, _ => exact s2 h
    | 3, _ => exact s3 h
    | 4, _ => exact s4 h
  have all : ∀ k, k + b ≤ 5 → Rd (b + k) n p t → Rd b n p t := fun k => by
    induction k with
    | zero => exact fun _ h => h
    | succ k ih => exact fun hk h => ih (by omega) (step (b + k) (by omega) h)
  exact all (a - b) (by omega) (by rw [show b + (a - b) = a by omega]; exact h)
theorem rank_le (p : Pt) : rank p ≤ 5 := by
  cases p with
  | db b p q => cases b <;> simp [rank, Db.k]
  | _ => simp [rank]
theorem rd_par {n low : Nat} {p : Pt} {t : Txt} (h : Rd (rank p) n p t) (hl : low ≤ 5) : Rd low (n + 1) p (par low p t) := by
  unfold par
  split
  · rename_i z
    exact (h.mono (by omega)).down z (rank_le p)
  · exact (Rd.par (h.down (Nat.zero_le _) (rank_le p))).down hl (Nat.le_refl _)
theorem rd_body : ∀ p : Pt, ok p → Rd (rank p) (ht p) p (body p)
  | .lt c, h => .lt h
  | .any, _ => .any
  | .emp, _ => .emp
  | .sg s p, h => .sg s (rd_par (rd_body p h) (by decide))
  | .nt p, h => .nt (rd_par (rd_body p h) (by decide))
  | .db b p q, h => by
    show Rd b.k _ _ _
    unfold body
    rw [List.append_assoc]
    simp only [ht]
    exact .db b ((rd_par (rd_body p h.1) (by cases b <;> decide)).mono (by omega)) ((rd_par (rd_body q h.2) (by cases b <;> decide)).mono (by omega))
theorem rd_body0 (p : Pt) (h : ok p) : Rd 0 (ht p) p (body p) := (rd_body p h).down (Nat.zero_le _) (rank_le p)
section
variable (d : Nat) (as : List W)
theorem c_plain : (Cd (d + 1)).call 14 as = runD (Cd d) f_plain_text (arrW as [.ix 0]) := envD_call rfl rfl as
theorem c_for : (Cd (d + 1)).call 17 as = runD (Cd d) f_text_for (arrW as [.ix 0, .ix 1]) := envD_call rfl rfl as
theorem c_rank : (Cd (d + 1)).call 18 as = runD (Cd d) f_rank_of (arrW as [.ix 0]) := envD_call rfl rfl as
theorem c_written : (Cd (d + 1)).call 3 as = runD (Cd d) f_law_written (arrW as [.ix 0, .ix 1]) := envD_call rfl rfl as
theorem c_lrank : (Cd (d + 1)).call 12 as = runD (Cd d) f_law_rank (arrW as [.ix 0]) := envD_call rfl rfl as
end
section
variable {L : Hh} {Q E : RQ} {C : Dx.Env}
theorem rank_ok {p : Pt} (hq : Q (.int (rank p)) L) : wp (runD C f_rank_of [enc p]) L Q E := by
  refine wp_runD (by simp [f_rank_of]) ?_
  cases p with
  | lt c => simp [f_rank_of, enc, L2.atI, L2.ixN]; exact hq
  | any => simp [f_rank_of, enc, L2.atI, L2.ixN]; exact hq
  | emp => simp [f_rank_of, enc, L2.atI, L2.ixN]; exact hq
  | sg s p => cases s <;> (simp [f_rank_of, enc, L2.atI, L2.ixN, Sg.w]; exact hq)
  | nt p => simp [f_rank_of, enc, L2.atI, L2.ixN]; exact hq
  | db b p q => cases b <;> (simp [f_rank_of, enc, L2.atI, L2.ixN, Db.w, List.lookup]; exact hq)
/-- the call of text_for, by plain_text's -/
theorem for_ok {d : Nat} {p : Pt} {low : Nat} (hz : (body p).length < 1000) (hp : ∀ (Q E : RQ), Q (.str (body p)) L → wp (runD (Cd d) f_plain_text [enc p]) L Q E) (hq : Q (.str (par low p (body p))) L) : wp (runD (Cd (d + 1)) f_text_for [enc p, .int low]) L Q E := by
  refine wp_runD (by simp [f_text_for]) ?_
  simp [f_text_for, c_plain, c_rank, arrW]
  refine hp _ _ ?_
  refine rank_ok ?_
  have l1 : lenOk 1 = true := by decide
  have l2 : lenOk (1 + (body p).length) = true := lenOk_lt (by omega)
  have l3 : lenOk ((body p).length + 1) = true := lenOk_lt (by omega)
  have l4 : lenOk ((body p).length) = true := lenOk_lt (by omega)
  have l5 : lenOk ((body p).length + 1 + 1) = true := lenOk_lt (by omega)
  unfold par at hq
  by_cases h : low ≤ rank p
  · rw [if_pos h] at hq
    have h' : (low : Int) ≤ (rank p : Int) := by omega
    simp [h']
    exact hq
  · rw [if_neg h] at hq
    have h' : ¬ (low : Int) ≤ (rank p : Int) := by omega
    have l6 : lenOk (1 + (body p).length + 1) = true := lenOk_lt (by omega)
    simp [h', h, fmtW, l1, l2, l3, l4, l5, l6]
    exact hq
theorem plain_ok : ∀ (p : Pt) (d : Nat) (L : Hh) (Q E : RQ), ok p → 4 * sz p < 1000 → 2 * ht p ≤ d → Q (.str (body p)) L → wp (runD (Cd d) f_plain_text [enc p]) L Q E
  | .lt c, d, L, Q, E, hp, hs, hd, hq => by
    refine wp_runD (by simp [f_plain_text]) ?_
    simp [f_plain_text, enc, L2.atI, L2.ixN]
    exact hq
  | .any, d, L, Q, E, hp, hs, hd, hq => by
    refine wp_runD (by simp [f_plain_text]) ?_
    simp [f_plain_text, enc, L2.atI, L2.ixN]
    exact hq
  | .emp, d, L, Q, E, hp, hs, hd, hq => by
    refine wp_runD (by simp [f_plain_text]) ?_
    simp [f_plain_text, enc, L2.atI, L2.ixN]
    exact hq
  | .sg s p, d, L, Q, E, hp, hs, hd, hq => by
    simp only [ht, sz] at hd hs
    obtain ⟨d, rfl⟩ : ∃ d', d = d' + 2 := ⟨d - 2, by omega⟩
    have b1 := body_len p
    have p1 := par_len 4 p (body p)
    have l1 : lenOk ((par 4 p (body p)).length + 1) = true := lenOk_lt (by omega)
    have key : ∀ (Q E : RQ), Q (.str (par 4 p (body p))) L → wp (runD (Cd (d + 1)) f_text_for [enc p, .int ((4 : Nat) : Int)]) L Q E := fun Q E h => for_ok (by omega) (fun Q E h => plain_ok p d L Q E hp (by omega) (by omega) h) h
    refine wp_runD (by simp [f_plain_text]) ?_
    cases s <;> (simp [f_plain_text, enc, L2.atI, L2.ixN, Sg.w, List.lookup, c_for, arrW]; refine key _ _ ?_; simp [l1]; exact hq)
  | .nt p, d, L, Q, E, hp, hs, hd, hq => by
    simp only [ht, sz] at hd hs
    obtain ⟨d, rfl⟩ : ∃ d', d = d' + 2 := ⟨d - 2, by omega⟩
    have b1 := body_len p
    have p1 := par_len 3 p (body p)
    have l1 : lenOk ((par 3 p (body p)).length + 1) = true := lenOk_lt (by omega)
    have l2 : lenOk (1 + (par 3 p (body p)).length) = true := lenOk_lt (by omega)
    have key : ∀ (Q E : RQ), Q (.str (par 3 p (body p))) L → wp (runD (Cd (d + 1)) f_text_for [enc p, .int ((3 : Nat) : Int)]) L Q E := fun Q E h => for_ok (by omega) (fun Q E h => plain_ok p d L Q E hp (by omega) (by omega) h) h
    refine wp_runD (by simp [f_plain_text]) ?_
    simp [f_plain_text, enc, L2.atI, L2.ixN, c_for, arrW]
    refine key _ _ ?_
    simp [l1, l2]
    exact hq
  | .db b p q, d, L, Q, E, hp, hs, hd, hq => by
    simp only [ht, sz] at hd hs
    obtain ⟨d, rfl⟩ : ∃ d', d = d' + 2 := ⟨d - 2, by omega⟩
    have b1 := body_len p
    have b2 := body_len q
    have p1 := par_len b.k p (body p)
    have p2 := par_len (b.k + 1) q (body q)
    have hb : b.s.length ≤ 1 := by cases b <;> simp [Db.s]
    have l1 : lenOk ((par b.k p (body p)).length + b.s.length) = true := lenOk_lt (by omega)
    have l2 : lenOk ((par b.k p (body p) ++ b.s).length + (par (b.k + 1) q (body q)).length) = true := lenOk_lt (by simp; omega)
    have key1 : ∀ (Q E : RQ), Q (.str (par b.k p (body p))) L → wp (runD (Cd (d + 1)) f_text_for [enc p, .int (b.k : Int)]) L Q E := fun Q E h => for_ok (by omega) (fun Q E h => plain_ok p d L Q E hp.1 (by omega) (by omega) h) h
    have key2 : ∀ (Q E : RQ), Q (.str (par (b.k + 1) q (body q))) L → wp (runD (Cd (d + 1)) f_text_for [enc q, .int ((b.k + 1 : Nat) : Int)]) L Q E := fun Q E h => for_ok (by omega) (fun Q E h => plain_ok q d L Q E hp.2 (by omega) (by omega) h) h
    refine wp_runD (by simp [f_plain_text]) ?_
    unfold body at hq
    cases b with
    | either =>
      simp only [Db.k, Db.s] at *
      simp [f_plain_text, enc, L2.atI, L2.ixN, Db.w, List.lookup, c_for, arrW]
      refine key1 _ _ ?_
      simp at l1 l2
      simp [l1]
      refine key2 _ _ ?_
      simp [l2]
      simpa using hq
    | both =>
      simp only [Db.k, Db.s] at *
      simp [f_plain_text, enc, L2.atI, L2.ixN, Db.w, List.lookup, c_for, arrW]
      refine key1 _ _ ?_
      simp at l1 l2
      simp [l1]
      refine key2 _ _ ?_
      simp [l2]
      simpa using hq
    | join =>
      simp only [Db.k, Db.s] at *
      simp [f_plain_text, enc, L2.atI, L2.ixN, Db.w, List.lookup, c_for, arrW]
      refine key1 _ _ ?_
      simp at l1 l2
      simp [l1]
      refine key2 _ _ ?_
      simp [l2]
      simpa using hq
theorem ptext_ok {p : Pt} {d : Nat} (hp : ok p) (h1 : ht p ≤ 12) (h2 : sz p ≤ 40) (hd : 2 * ht p + 3 ≤ d) (hq : ∀ L', Ext L L' → Q (.str (body p)) L') : wp (runD (Cd d) f_pattern_text [enc p]) L Q E := by
  obtain ⟨d, rfl⟩ : ∃ d', d = d' + 2 := ⟨d - 2, by omega⟩
  refine wp_runD (by simp [f_pattern_text]) ?_
  simp [f_pattern_text, c_isp, c_plain, arrW]
  refine isp_ok hp h1 h2 fun L' k => ?_
  simp
  exact plain_ok p (d + 1) L' _ _ hp (by omega) (by omega) (hq L' k)
end
end Q

set_option maxRecDepth 100000
set_option maxHeartbeats 4000000
/-! P14h: the law's own texts. -/
namespace Q
open PySem Dx
def sgD : Ex := (.sub (.dsp [(.ks [115, 116, 97, 114]), (.ks [42]), (.ks [112, 108, 117, 115]), (.ks [43]), (.ks [109, 97, 121, 98, 101]), (.ks [63])]) (.var 2))
def dbD : Ex := (.sub (.dsp [(.ks [101, 105, 116, 104, 101, 114]), (.ks [124]), (.ks [98, 111, 116, 104]), (.ks [38]), (.ks [106, 111, 105, 110]), (.ks [])]) (.var 2))
def wE : Sm := .rtn (.ifx (.bv (.cmp .ge (.call 12 [(.var 0)] []) (.var 1))) (.var 3) (.bin .add (.bin .add (.ks [40]) (.var 3)) (.ks [41])))
theorem written_eq : f_law_written = ⟨5, [
  .asg (.nm 2) (.sub (.var 0) (.ki 0)),
  .ifs (.bv (.cmp .eq (.var 2) (.ks [108, 101, 116, 116, 101, 114]))) [
    .rtn (.sub (.var 0) (.ki 1))] [],
  .ifs (.bv (.cmp .inn (.var 2) (.tup [(.ks [97, 110, 121]), (.ks [101, 109, 112, 116, 121])]))) [
    .rtn (.ifx (.bv (.cmp .eq (.var 2) (.ks [97, 110, 121]))) (.ks [46]) (.ks [40, 41]))] [],
  .ifs (.bv (.cmp .eq (.var 2) (.ks [110, 111, 116]))) [
    .asg (.nm 3) (.bin .add (.ks [33]) (.call 3 [(.sub (.var 0) (.ki 1)), (.ki 3)] []))] [
    .ifs (.bv (.cmp .inn (.var 2) (.tup [(.ks [115, 116, 97, 114]), (.ks [112, 108, 117, 115]), (.ks [109, 97, 121, 98, 101])]))) [
      .asg (.nm 3) (.bin .add (.call 3 [(.sub (.var 0) (.ki 1)), (.ki 4)] []) sgD)] [
      .asg (.nm 4) (.call 12 [(.var 0)] []),
      .asg (.nm 3) (.bin .add (.bin .add (.call 3 [(.sub (.var 0) (.ki 1)), (.var 4)] []) dbD) (.call 3 [(.sub (.var 0) (.ki 2)), (.bin .add (.var 4) (.ki 1))] []))]],
  wE]⟩ := rfl
def lE : Sm := .rtn (.ifx (.bv (.cmp .eq (.call 10 [(.var 0), (.ki 3)] []) (.ki 0))) (.bin .add (.bin .add (.ks [40]) (.var 3)) (.ks [41])) (.var 3))
theorem loose_eq : f_law_loose = ⟨4, [
  .asg (.nm 2) (.sub (.var 1) (.ki 0)),
  .ifs (.bv (.cmp .inn (.var 2) (.tup [(.ks [108, 101, 116, 116, 101, 114]), (.ks [97, 110, 121]), (.ks [101, 109, 112, 116, 121])]))) [
    .asg (.nm 3) (.call 3 [(.var 1), (.ki 0)] [])] [
    .ifs (.bv (.cmp .inn (.var 2) (.tup [(.ks [101, 105, 116, 104, 101, 114]), (.ks [98, 111, 116, 104]), (.ks [106, 111, 105, 110])]))) [
      .asg (.nm 3) (.bin .add (.bin .add (.bin .add (.bin .add (.bin .add (.bin .add (.ks [40]) (.call 7 [(.var 0), (.sub (.var 1) (.ki 1))] [])) (.ks [41])) dbD) (.ks [40])) (.call 7 [(.var 0), (.sub (.var 1) (.ki 2))] [])) (.ks [41]))] [
      .asg (.nm 3) (.bin .add (.bin .add (.ks [40]) (.call 7 [(.var 0), (.sub (.var 1) (.ki 1))] [])) (.ks [41])),
      .asg (.nm 3) (.ifx (.bv (.cmp .eq (.var 2) (.ks [110, 111, 116]))) (.bin .add (.ks [33]) (.var 3)) (.bin .add (.var 3) sgD))]],
  lE]⟩ := rfl
@[simp] theorem lo1 : lenOk 1 = true := by decide
@[simp] theorem lo2 : lenOk 2 = true := by decide
@[simp] theorem lo3 : lenOk 3 = true := by decide
@[simp] theorem lo4 : lenOk 4 = true := by decide
@[simp] theorem lo5 : lenOk 5 = true := by decide
@[simp] theorem lo6 : lenOk 6 = true := by decide
@[simp] theorem keyFit_str {t : Txt} : keyFit false (.str t) = some (.s t) := rfl
section
variable {L : Hh} {Q E : RQ} {C : Dx.Env} {ρ : Fr}
theorem sgD_ok {s : Sg} (h : ρ[2]? = some (some (.str s.w))) (hq : ∀ L', Ext L L' → Q (.str [s.c]) L') : wp (evE C ρ sgD) L Q E := by
  unfold sgD
  simp [h]
  rw [wp_itemD get_new]
  cases s <;> exact hq _ (Ext.app _)
theorem dbD_ok {b : Db} (h : ρ[2]? = some (some (.str b.w))) (hq : ∀ L', Ext L L' → Q (.str b.s) L') : wp (evE C ρ dbD) L Q E := by
  unfold dbD
  simp [h]
  rw [wp_itemD get_new]
  cases b <;> exact hq _ (Ext.app _)
theorem lrank_ok {p : Pt} (hq : ∀ L', Ext L L' → Q (.int (rank p)) L') : wp (runD C f_law_rank [enc p]) L Q E := by
  refine wp_runD (by simp [f_law_rank]) ?_
  cases p with
  | lt c => simp [f_law_rank, enc, L2.atI, L2.ixN, dctAt]; exact hq _ (Ext.app _)
  | any => simp [f_law_rank, enc, L2.atI, L2.ixN, dctAt]; exact hq _ (Ext.app _)
  | emp => simp [f_law_rank, enc, L2.atI, L2.ixN, dctAt]; exact hq _ (Ext.app _)
  | sg s p => cases s <;> (simp [f_law_rank, enc, L2.atI, L2.ixN, dctAt, Sg.w]; exact hq _ (Ext.app _))
  | nt p => simp [f_law_rank, enc, L2.atI, L2.ixN, dctAt]; exact hq _ (Ext.app _)
  | db b p q => cases b <;> (simp [f_law_rank, enc, L2.atI, L2.ixN, dctAt, Db.w]; exact hq _ (Ext.app _))
/-- the last row of written -/
theorem wr_end {d : Nat} {p : Pt} {low : Nat} {w4 : Option W} {t : Txt} {F : FQ} (hz : t.length < 1000) (hq : ∀ L', Ext L L' → F (.rt (.str (par low p t)), [some (enc p), some (.int low), some v2, some (.str t), w4]) L') :
    wp (exS (Cd (d + 1)) wE [some (enc p), some (.int low), some v2, some (.str t), w4]) L F E := by
  simp [wE, c_lrank, arrW]
  refine lrank_ok fun L' k => ?_
  have l1 : lenOk (1 + t.length) = true := lenOk_lt (by omega)
  have l2 : lenOk (t.length + 1) = true := lenOk_lt (by omega)
  have l3 : lenOk (t.length + 1 + 1) = true := lenOk_lt (by omega)
  have l4 : lenOk (1 + t.length + 1) = true := lenOk_lt (by omega)
  have q := hq L' k
  unfold par at q
  by_cases h : low ≤ rank p
  · rw [if_pos h] at q
    have h' : (low : Int) ≤ (rank p : Int) := by omega
    simp [h', h]
    exact q
  · rw [if_neg h] at q
    have h' : ¬ (low : Int) ≤ (rank p : Int) := by omega
    simp [h', h, l1, l2, l3, l4]
    exact q
theorem wr_ok : ∀ (p : Pt) (d low : Nat) (L : Hh) (Q E : RQ), low ≤ 5 → ok p → 4 * sz p < 900 → ht p + 1 ≤ d → (∀ L', Ext L L' → Q (.str (par low p (body p))) L') → wp (runD (Cd d) f_law_written [enc p, .int low]) L Q E
  | .lt c, d, low, L, Q, E, hl, hp, hs, hd, hq => by
    rw [written_eq]
    refine wp_runD (by simp) ?_
    have e : par low (.lt c) (body (.lt c)) = [c] := if_pos hl
    rw [e] at hq
    simp [enc, L2.atI, L2.ixN]
    exact hq L (Ext.refl L)
  | .any, d, low, L, Q, E, hl, hp, hs, hd, hq => by
    rw [written_eq]
    refine wp_runD (by simp) ?_
    have e : par low .any (body .any) = [46] := if_pos hl
    rw [e] at hq
    simp [enc, L2.atI, L2.ixN, eqW, Dx.flatW]
    exact hq L (Ext.refl L)
  | .emp, d, low, L, Q, E, hl, hp, hs, hd, hq => by
    rw [written_eq]
    refine wp_runD (by simp) ?_
    have e : par low .emp (body .emp) = [40, 41] := if_pos hl
    rw [e] at hq
    simp [enc, L2.atI, L2.ixN, eqW, Dx.flatW]
    exact hq L (Ext.refl L)
  | .sg s p, d, low, L, Q, E, hl, hp, hs, hd, hq => by
    simp only [ht, sz] at hd hs
    obtain ⟨d, rfl⟩ : ∃ d', d = d' + 1 := ⟨d - 1, by omega⟩
    have b1 := body_len p
    have p1 := par_len 4 p (body p)
    have l1 : lenOk ((par 4 p (body p)).length + 1) = true := lenOk_lt (by omega)
    rw [written_eq]
    refine wp_runD (by simp) ?_
    have key : ∀ (Q E : RQ), (∀ L', Ext L L' → Q (.str (par 4 p (body p))) L') → wp (runD (Cd d) f_law_written [enc p, .int ((4 : Nat) : Int)]) L Q E := fun Q E h => wr_ok p d 4 L Q E (by omega) hp (by omega) (by omega) h
    cases s with
    | star =>
      simp [enc, L2.atI, L2.ixN, Sg.w, eqW, Dx.flatW, c_written, arrW]
      refine key _ _ fun L1 k1 => ?_
      refine sgD_ok (s := .star) (by rfl) fun L2 k2 => ?_
      simp [Sg.c, l1]
      exact wr_end (p := .sg .star p) (by simp; omega) fun L3 k3 => hq L3 (k1.trans (k2.trans k3))
    | plus =>
      simp [enc, L2.atI, L2.ixN, Sg.w, eqW, Dx.flatW, c_written, arrW]
      refine key _ _ fun L1 k1 => ?_
      refine sgD_ok (s := .plus) (by rfl) fun L2 k2 => ?_
      simp [Sg.c, l1]
      exact wr_end (p := .sg .plus p) (by simp; omega) fun L3 k3 => hq L3 (k1.trans (k2.trans k3))
    | maybe =>
      simp [enc, L2.atI, L2.ixN, Sg.w, eqW, Dx.flatW, c_written, arrW]
      refine key _ _ fun L1 k1 => ?_
      refine sgD_ok (s := .maybe) (by rfl) fun L2 k2 => ?_
      simp [Sg.c, l1]
      exact wr_end (p := .sg .maybe p) (by simp; omega) fun L3 k3 => hq L3 (k1.trans (k2.trans k3))
  | .nt p, d, low, L, Q, E, hl, hp, hs, hd, hq => by
    simp only [ht, sz] at hd hs
    obtain ⟨d, rfl⟩ : ∃ d', d = d' + 1 := ⟨d - 1, by omega⟩
    have b1 := body_len p
    have p1 := par_len 3 p (body p)
    have l1 : lenOk ((par 3 p (body p)).length + 1) = true := lenOk_lt (by omega)
    have l2 : lenOk (1 + (par 3 p (body p)).length) = true := lenOk_lt (by omega)
    rw [written_eq]
    refine wp_runD (by simp) ?_
    have key : ∀ (Q E : RQ), (∀ L', Ext L L' → Q (.str (par 3 p (body p))) L') → wp (runD (Cd d) f_law_written [enc p, .int ((3 : Nat) : Int)]) L Q E := fun Q E h => wr_ok p d 3 L Q E (by omega) hp (by omega) (by omega) h
    simp [enc, L2.atI, L2.ixN, eqW, Dx.flatW, c_written, arrW]
    refine key _ _ fun L1 k1 => ?_
    simp [l1, l2]
    exact wr_end (p := .nt p) (by simp; omega) fun L3 k3 => hq L3 (k1.trans k3)
  | .db b p q, d, low, L, Q, E, hl, hp, hs, hd, hq => by
    simp only [ht, sz] at hd hs
    obtain ⟨d, rfl⟩ : ∃ d', d = d' + 1 := ⟨d - 1, by omega⟩
    have b1 := body_len p
    have b2 := body_len q
    have p1 := par_len b.k p (body p)
    have p2 := par_len (b.k + 1) q (body q)
    have hb : b.s.length ≤ 1 := by cases b <;> simp [Db.s]
    have l1 : lenOk ((par b.k p (body p)).length + b.s.length) = true := lenOk_lt (by omega)
    have l2 : lenOk ((par b.k p (body p)).length + b.s.length + (par (b.k + 1) q (body q)).length) = true := lenOk_lt (by omega)
    have key1 : ∀ (L : Hh) (Q E : RQ), (∀ L', Ext L L' → Q (.str (par b.k p (body p))) L') → wp (runD (Cd d) f_law_written [enc p, .int (b.k : Int)]) L Q E := fun L Q E h => wr_ok p d b.k L Q E (by cases b <;> simp [Db.k]) hp.1 (by omega) (by omega) h
    have key2 : ∀ (L : Hh) (Q E : RQ), (∀ L', Ext L L' → Q (.str (par (b.k + 1) q (body q))) L') → wp (runD (Cd d) f_law_written [enc q, .int ((b.k + 1 : Nat) : Int)]) L Q E := fun L Q E h => wr_ok q d (b.k + 1) L Q E (by cases b <;> simp [Db.k]) hp.2 (by omega) (by omega) h
    rw [written_eq]
    refine wp_runD (by simp) ?_
    cases b with
    | either =>
      simp [enc, L2.atI, L2.ixN, Db.w, eqW, Dx.flatW, c_written, c_lrank, arrW]
      refine lrank_ok (p := .db .either p q) fun L0 k0 => ?_
      refine key1 _ _ _ fun L1 k1 => ?_
      refine dbD_ok (b := .either) (by rfl) fun L2 k2 => ?_
      simp [l1]
      refine key2 _ _ _ fun L3 k3 => ?_
      simp [l2]
      exact wr_end (p := .db .either p q) (by simp; omega) fun L4 k4 => by simpa [body] using hq L4 (k0.trans (k1.trans (k2.trans (k3.trans k4))))
    | both =>
      simp [enc, L2.atI, L2.ixN, Db.w, eqW, Dx.flatW, c_written, c_lrank, arrW]
      refine lrank_ok (p := .db .both p q) fun L0 k0 => ?_
      refine key1 _ _ _ fun L1 k1 => ?_
      refine dbD_ok (b := .both) (by rfl) fun L2 k2 => ?_
      simp [l1]
      refine key2 _ _ _ fun L3 k3 => ?_
      simp [l2]
      exact wr_end (p := .db .both p q) (by simp; omega) fun L4 k4 => by simpa [body] using hq L4 (k0.trans (k1.trans (k2.trans (k3.trans k4))))
    | join =>
      simp [enc, L2.atI, L2.ixN, Db.w, eqW, Dx.flatW, c_written, c_lrank, arrW]
      refine lrank_ok (p := .db .join p q) fun L0 k0 => ?_
      refine key1 _ _ _ fun L1 k1 => ?_
      refine dbD_ok (b := .join) (by rfl) fun L2 k2 => ?_
      simp [l1]
      refine key2 _ _ _ fun L3 k3 => ?_
      simp [l2]
      exact wr_end (p := .db .join p q) (by simp; omega) fun L4 k4 => by simpa [body] using hq L4 (k0.trans (k1.trans (k2.trans (k3.trans k4))))
end
end Q

set_option maxRecDepth 100000
set_option maxHeartbeats 4000000
/-! P14i: what is drawn. -/
namespace Q
open PySem Dx
section
variable (d : Nat) (as : List W)
theorem c_hand : (Cd (d + 1)).call 0 as = runD (Cd d) fHand (arrW as [.ix 0]) := envD_call rfl rfl as
theorem c_signs : (Cd (d + 1)).call 1 as = runD (Cd d) f_law_signs (arrW as [.ix 0, .ix 1]) := envD_call rfl rfl as
theorem c_pattern : (Cd (d + 1)).call 2 as = runD (Cd d) f_law_pattern (arrW as [.ix 0, .ix 1, .ix 2]) := envD_call rfl rfl as
theorem c_loose : (Cd (d + 1)).call 7 as = runD (Cd d) f_law_loose (arrW as [.ix 0, .ix 1]) := envD_call rfl rfl as
theorem c_pick : (Cd (d + 1)).call 10 as = runD (Cd d) fPick (arrW as [.ix 0, .ix 1]) := envD_call rfl rfl as
theorem c_of : (Cd (d + 1)).call 11 as = runD (Cd d) (fOf 10) (arrW as [.ix 0, .ix 1]) := envD_call rfl rfl as
end
theorem Same1_kp {l : Nat} {L L' : Hh} (s : Same1 l L L') : Keep l L L' := fun j o h e => by rw [s.ne j h]; exact e
theorem Ext.kp {l : Nat} {L L' : Hh} (s : Ext L L') : Keep l L L' := fun j o _ e => s j o e
theorem hand_ext {L L' : Hh} {l c : Nat} {is : List Int} (h : HandAt L l c is) (k : Ext L L') : HandAt L' l c is := h.same k
section
variable {L : Hh} {Q E : RQ} {d l c : Nat} {is : List Int}
/-- a pick, called -/
theorem cpick {m : Int} (h : HandAt L l c is) (hm : 0 < m) (hm2 : m < 1073741824) (hq : ∀ r L', 0 ≤ r → r < m → HandAt L' l c is → Keep l L L' → Q (.int r) L') : wp ((Cd (d + 1)).call 10 [.ref l, .int m]) L Q E := by
  rw [c_pick]
  exact pick_ok h hm hm2 fun r L' r0 r1 h' s => hq r L' r0 r1 h' (Same1_kp s)
theorem cof_txt {x : Txt} (h : HandAt L l c is) (h0 : 0 < x.length) (h1 : x.length < 1000) (hq : ∀ (s : Nat) (L' : Hh), s ∈ x → HandAt L' l c is → Keep l L L' → Q (.str [s]) L') : wp ((Cd (d + 2)).call 11 [.ref l, .str x]) L Q E := by
  rw [c_of]
  exact of_txt (c_pick d) h h0 h1 fun s L' hs h' k => hq s L' hs h' (Same1_kp k)
theorem cof_lst {a : Nat} {ws : List W} (h : HandAt L l c is) (ha : L[a]? = some (.lst ws)) (hl : a ≠ l) (h0 : 0 < ws.length) (h1 : ws.length < 1000) (hq : ∀ (w : W) (L' : Hh), w ∈ ws → HandAt L' l c is → Keep l L L' → Q w L') : wp ((Cd (d + 2)).call 11 [.ref l, .ref a]) L Q E := by
  rw [c_of]
  exact of_lst (c_pick d) h ha hl h0 h1 fun w L' hs h' k => hq w L' hs h' (Same1_kp k)
theorem hand_lt (h : HandAt L l c is) : l < L.length := by
  obtain ⟨⟨i, z, mk, h1, _⟩, _⟩ := h
  exact lt_of_get h1
theorem atI_last {t : Txt} (h : 0 < t.length) : L2.atI t (-1) = t[t.length - 1]? := by
  unfold L2.atI L2.ixN
  have h1 : ¬ (0 : Int) ≤ -1 := by omega
  have h2 : (-1 : Int) < 0 := by omega
  have e : ((-1 : Int) + (t.length : Int)).toNat = t.length - 1 := by omega
  have h3 : (0 : Int) ≤ -1 + (t.length : Int) := by omega
  have h4 : -1 + (t.length : Int) < (t.length : Int) := by omega
  simp
  split <;> simp_all <;> omega
def leafE : Ex := (.call 11 [(.var 0), (.lst [(.tup [(.ks [108, 101, 116, 116, 101, 114]), (.call 11 [(.var 0), (.var 1)] [])]), (.tup [(.ks [108, 101, 116, 116, 101, 114]), (.sub (.var 1) (.ki 0))]), (.tup [(.ks [97, 110, 121])]), (.tup [(.ks [108, 101, 116, 116, 101, 114]), (.sub (.var 1) (.neg (.ki 1)))]), (.tup [(.ks [101, 109, 112, 116, 121])])])] [])
def unE : Ex := (.call 11 [(.var 0), (.lst [(.ks [115, 116, 97, 114]), (.ks [112, 108, 117, 115]), (.ks [109, 97, 121, 98, 101]), (.ks [110, 111, 116])])] [])
def biE : Ex := (.call 11 [(.var 0), (.lst [(.ks [106, 111, 105, 110]), (.ks [106, 111, 105, 110]), (.ks [101, 105, 116, 104, 101, 114]), (.ks [98, 111, 116, 104])])] [])
def recE : Ex := (.call 2 [(.var 0), (.var 1), (.bin .sub (.var 2) (.ki 1))] [])
theorem pattern_eq : f_law_pattern = ⟨5, [
  .asg (.nm 3) (.call 10 [(.var 0), (.ki 10)] []),
  .ifs (.any [(.bv (.cmp .lt (.var 2) (.ki 2))), (.bv (.cmp .lt (.var 3) (.ki 3)))]) [
    .rtn leafE] [],
  .asg (.nm 4) recE,
  .ifs (.bv (.cmp .lt (.var 3) (.ki 6))) [
    .rtn (.tup [unE, (.var 4)])] [],
  .rtn (.tup [biE, (.var 4), recE])]⟩ := rfl
theorem pt_leaf {sg : Txt} {deep : Int} (h : HandAt L l c is) (h0 : 0 < sg.length) (h1 : sg.length < 1000) (hs : ∀ c ∈ sg, c ∈ small) (hq : ∀ p L', ok p → ht p = 1 → HandAt L' l c is → Keep l L L' → Q (enc p) L') {w3 w4 : Option W} :
    wp (evE (Cd (d + 2)) [some (.ref l), some (.str sg), some (.int deep), w3, w4] leafE) L Q E := by
  unfold leafE
  have lo : lenOk sg.length = true := lenOk_lt (by omega)
  simp
  refine cof_txt h h0 h1 fun s L1 hs1 hh1 k1 => ?_
  have g0 : L2.atI sg 0 = some sg[0] := by
    have := atI_ofNat sg 0 h0
    rw [List.getElem?_eq_getElem h0] at this
    exact this
  have g1 : L2.atI sg (-1) = some sg[sg.length - 1] := by
    rw [atI_last h0, List.getElem?_eq_getElem (by omega)]
  simp [lo, g0, g1]
  have hl := hand_lt hh1
  refine cof_lst (hand_ext hh1 (Ext.app _)) get_new (by omega) (by simp) (by simp) fun w L2 hw hh2 k2 => ?_
  have kk : Keep l L L2 := k1.trans ((Keep.app _).trans k2)
  have m0 : sg[0] ∈ sg := List.getElem_mem h0
  have m1 : sg[sg.length - 1] ∈ sg := List.getElem_mem (by omega)
  simp at hw
  rcases hw with rfl | rfl | rfl | rfl | rfl
  · exact hq (.lt s) L2 (hs s hs1) rfl hh2 kk
  · exact hq (.lt _) L2 (hs _ m0) rfl hh2 kk
  · exact hq .any L2 trivial rfl hh2 kk
  · exact hq (.lt _) L2 (hs _ m1) rfl hh2 kk
  · exact hq .emp L2 trivial rfl hh2 kk
theorem un_ok {ρ : Fr} (h : HandAt L l c is) (hr : ρ[0]? = some (some (.ref l))) (hq : ∀ w L', (∀ p, ok p → ∃ p', W.tup [w, enc p] = enc p' ∧ ok p' ∧ ht p' = ht p + 1) → HandAt L' l c is → Keep l L L' → Q w L') : wp (evE (Cd (d + 2)) ρ unE) L Q E := by
  unfold unE
  simp [hr]
  have hl := hand_lt h
  refine cof_lst (hand_ext h (Ext.app _)) get_new (by omega) (by simp) (by simp) fun w L2 hw hh2 k2 => ?_
  refine hq w L2 (fun p hp => ?_) hh2 ((Keep.app _).trans k2)
  simp at hw
  rcases hw with rfl | rfl | rfl | rfl
  · exact ⟨.sg .star p, rfl, hp, rfl⟩
  · exact ⟨.sg .plus p, rfl, hp, rfl⟩
  · exact ⟨.sg .maybe p, rfl, hp, rfl⟩
  · exact ⟨.nt p, rfl, hp, rfl⟩
theorem bi_ok {ρ : Fr} (h : HandAt L l c is) (hr : ρ[0]? = some (some (.ref l))) (hq : ∀ w L', (∀ p q, ok p → ok q → ∃ p', W.tup [w, enc p, enc q] = enc p' ∧ ok p' ∧ ht p' = max (ht p) (ht q) + 1) → HandAt L' l c is → Keep l L L' → Q w L') : wp (evE (Cd (d + 2)) ρ biE) L Q E := by
  unfold biE
  simp [hr]
  have hl := hand_lt h
  refine cof_lst (hand_ext h (Ext.app _)) get_new (by omega) (by simp) (by simp) fun w L2 hw hh2 k2 => ?_
  refine hq w L2 (fun p q hp hq => ?_) hh2 ((Keep.app _).trans k2)
  simp at hw
  rcases hw with rfl | rfl | rfl
  · exact ⟨.db .join p q, rfl, ⟨hp, hq⟩, rfl⟩
  · exact ⟨.db .either p q, rfl, ⟨hp, hq⟩, rfl⟩
  · exact ⟨.db .both p q, rfl, ⟨hp, hq⟩, rfl⟩
end
theorem pat_ok {l c : Nat} {is : List Int} {sg : Txt} (h0 : 0 < sg.length) (h1 : sg.length < 1000) (hs : ∀ c ∈ sg, c ∈ small) : ∀ (k : Nat) (d : Nat) (L : Hh) (Q E : RQ), HandAt L l c is → k + 3 ≤ d → (∀ p L', ok p → ht p ≤ k + 1 → HandAt L' l c is → Keep l L L' → Q (enc p) L') →
    wp (runD (Cd d) f_law_pattern [.ref l, .str sg, .int ((k + 1 : Nat) : Int)]) L Q E := by
  intro k
  induction k with
  | zero =>
    intro d L Q E h hd hq
    obtain ⟨d, rfl⟩ : ∃ d', d = d' + 2 := ⟨d - 2, by omega⟩
    rw [pattern_eq]
    refine wp_runD (by simp) ?_
    simp
    refine cpick h (by omega) (by omega) fun r L1 r0 r1 h1' k1 => ?_
    refine pt_leaf h1' h0 h1 hs fun p L2 hp hh h2 k2 => ?_
    exact hq p L2 hp (by omega) h2 (k1.trans k2)
  | succ k ih =>
    intro d L Q E h hd hq
    obtain ⟨d, rfl⟩ : ∃ d', d = d' + 2 := ⟨d - 2, by omega⟩
    have hrec : ∀ (L : Hh) (Q E : RQ) (w3 w4 : Option W), HandAt L l c is → (∀ p L', ok p → ht p ≤ k + 1 → HandAt L' l c is → Keep l L L' → Q (enc p) L') → wp (evE (Cd (d + 2)) [some (.ref l), some (.str sg), some (.int ((k + 1 + 1 : Nat) : Int)), w3, w4] recE) L Q E := fun L Q E w3 w4 h hq => by
      unfold recE
      simp
      rw [show (k : Int) + 1 = ((k + 1 : Nat) : Int) by omega, c_pattern]
      exact ih (d + 1) L Q E h (by omega) hq
    rw [pattern_eq]
    refine wp_runD (by simp) ?_
    simp
    refine cpick h (by omega) (by omega) fun r L1 r0 r1 h1' k1 => ?_
    have hk : ¬ (k : Int) + 1 + 1 < 2 := by omega
    simp [hk]
    by_cases h3 : r < 3
    · simp [h3]
      refine pt_leaf (deep := (k : Int) + 1 + 1) h1' h0 h1 hs fun p L2 hp hh h2 k2 => ?_
      exact hq p L2 hp (by omega) h2 (k1.trans k2)
    · simp [h3]
      have hrec' := hrec L1
      simp at hrec'
      refine hrec' _ _ _ _ h1' fun p L2 hp hh h2 k2 => ?_
      by_cases h6 : r < 6
      · simp [h6]
        refine un_ok h2 (by rfl) fun w L3 hw h3' k3 => ?_
        obtain ⟨p', e, hp', hh'⟩ := hw p hp
        simp [e]
        exact hq p' L3 hp' (by omega) h3' (k1.trans (k2.trans k3))
      · simp [h6]
        refine bi_ok h2 (by rfl) fun w L3 hw h3' k3 => ?_
        have hrec3 := hrec L3
        simp at hrec3
        refine hrec3 _ _ _ _ h3' fun q L4 hq' hhq h4 k4 => ?_
        obtain ⟨p', e, hp', hh'⟩ := hw p q hp hq'
        simp [e]
        exact hq p' L4 hp' (by omega) h4 (k1.trans (k2.trans (k3.trans k4)))
end Q

set_option maxRecDepth 100000
set_option maxHeartbeats 4000000
/-! P14j: signs; loose texts; what is the same. -/
namespace Q
open PySem Dx
section
variable {L : Hh} {Q E : RQ} {d l c : Nat} {is : List Int}
theorem mapM_int_none {t : Txt} {ts : List Txt} : ((t :: ts).map W.str).mapM intOf = none := by
  rw [List.map_cons, List.mapM_cons]
  rfl
theorem wp_sortedT {a : Nat} {t : Txt} {ts : List Txt} (h : L[a]? = some (.lst ((t :: ts).map W.str))) (hl : (t :: ts).length < 64) : wp (callB .sortedf [.ref a]) L Q E = Q (.ref L.length) (L ++ [.lst ((sortT (t :: ts)).map W.str)]) := by
  show wp (match itemsOf L (.ref a) with
    | some ws => (match ws.mapM intOf with
      | some is => alloc (.lst ((sortI is).map .int))
      | none => (match ws.mapM txtOf with
        | some ts => if decide (ts.length < 64) then alloc (.lst ((sortT ts).map .str)) else fail
        | none => fail))
    | none => fail) L Q E = _
  rw [itemsOf_lst h]
  dsimp only
  rw [mapM_int_none]
  dsimp only
  rw [mapM_txt]
  dsimp only
  rw [if_pos (decide_eq_true hl)]
  rfl
theorem signs_ok (h : HandAt L l c is) (hd : 1 ≤ d) (hq : ∀ t L', t.length = 3 → (∀ c ∈ t, c ∈ small) → HandAt L' l c is → Keep l L L' → Q (.str t) L') : wp (runD (Cd d) f_law_signs [.ref l, .int 3]) L Q E := by
  obtain ⟨d, rfl⟩ : ∃ d', d = d' + 1 := ⟨d - 1, by omega⟩
  refine wp_runD (by simp [f_law_signs]) ?_
  simp [f_law_signs]
  refine cpick h (by omega) (by omega) fun r1 L1 r10 r11 h1 k1 => ?_
  refine cpick h1 (by omega) (by omega) fun r2 L2 r20 r21 h2 k2 => ?_
  have hl26 : lenOk 26 = true := by decide
  have s3 : smallR 3 = true := by decide
  have szl : (64 : Nat) < sizeLine := by rw [sizeLine_eq]; omega
  simp [s3, rcvOk]
  refine loopC_inv (n := 3) (fun i acc L' => L' = L2 ∧ ∃ cs : Txt, cs.length = i ∧ (∀ c ∈ cs, c ∈ small) ∧ acc = (cs.map fun c => [c]).map W.str) (fun i acc L' hi ⟨e1, cs, e2, e3, e4⟩ => ?_) (fun acc L' ⟨e1, cs, e2, e3, e4⟩ => ?_) _ 0 [] _ (lt_fuel (by omega)) (Nat.zero_le _) ⟨rfl, [], rfl, (fun _ z => nomatch z), rfl⟩
  · subst e1
    refine ⟨.int i, by simp [srcAt, hi], ?_⟩
    have j0 : 0 ≤ (r1 + (1 + r2) * (i : Int)) % 26 := Int.emod_nonneg _ (by omega)
    have j1 : (r1 + (1 + r2) * (i : Int)) % 26 < 26 := Int.emod_lt_of_pos _ (by omega)
    obtain ⟨j, hj⟩ := Int.eq_ofNat_of_zero_le j0
    have hj2 : j < 26 := by omega
    have hsm : smallI (i : Int) = true := by unfold smallI; simp; omega
    have g : L2.atI ([97, 98, 99, 100, 101, 102, 103, 104, 105, 106, 107, 108, 109, 110, 111, 112, 113, 114, 115, 116, 117, 118, 119, 120, 121, 122] : List Nat) ((r1 + (1 + r2) * (i : Int)) % 26) = some (small[j]'hj2) := by
      rw [hj]
      have := atI_ofNat small j hj2
      rw [List.getElem?_eq_getElem hj2] at this
      exact this
    simp [wp_turnC, wipeF, hsm, hl26, g]
    refine ⟨by rw [e4]; simp; omega, cs ++ [small[j]'hj2], by simp [e2], fun c hc => ?_, by simp [e4]⟩
    have z : c ∈ small := by
      rcases List.mem_append.mp hc with hc | hc
      · exact e3 c hc
      · have : c = small[j]'hj2 := by simpa using hc
        rw [this]
        exact List.getElem_mem hj2
    simpa using z
  · subst e1 e4
    refine ⟨by simp [srcAt], ?_⟩
    cases cs with
    | nil => simp at e2
    | cons c0 cs =>
      rw [List.map_cons]
      rw [wp_sortedT get_new (by simp at e2 ⊢; omega)]
      obtain ⟨ds, pm, es⟩ := sort_signs (c0 :: cs)
      rw [List.map_cons] at es
      rw [es]
      have hds := pm.length_eq
      rw [wp_joinL get_new (by rw [sum_len]; simp at e2 hds ⊢; omega), join_signs]
      refine hq ds _ (by omega) (fun c hc => e3 c (pm.mem_iff.mp hc)) (hand_ext h2 ((Ext.app _).trans (Ext.app _))) (k1.trans (k2.trans ((Keep.app _).trans (Keep.app _))))
theorem lE_ok {w1 w2 : Option W} {t : Txt} {F : FQ} (h : HandAt L l c is) (hz : t.length < 1000) (hq : ∀ t' L', (t' = t ∨ t' = 40 :: (t ++ [41])) → HandAt L' l c is → Keep l L L' → F (.rt (.str t'), [some (.ref l), w1, w2, some (.str t)]) L') :
    wp (exS (Cd (d + 1)) lE [some (.ref l), w1, w2, some (.str t)]) L F E := by
  simp [lE]
  refine cpick h (by omega) (by omega) fun r L1 r0 r1 h1 k1 => ?_
  have l1 : lenOk (1 + t.length) = true := lenOk_lt (by omega)
  have l2 : lenOk (t.length + 1) = true := lenOk_lt (by omega)
  have l3 : lenOk (t.length + 1 + 1) = true := lenOk_lt (by omega)
  have l4 : lenOk (1 + t.length + 1) = true := lenOk_lt (by omega)
  by_cases e : r = 0
  · simp [e, l1, l2, l3, l4]
    exact hq _ _ (.inr rfl) h1 k1
  · simp [e]
    exact hq _ _ (.inl rfl) h1 k1
/-- bracketed or not -/
theorem rd_opt {n n' lv : Nat} {p : Pt} {t t' : Txt} (h : Rd lv n p t) (hl : lv ≤ 5) (ht : t' = t ∨ t' = 40 :: (t ++ [41])) (hn : n + 1 ≤ n') : Rd 0 n' p t' := by
  rcases ht with rfl | rfl
  · exact (h.down (Nat.zero_le _) hl).mono (by omega)
  · exact ((Rd.par (h.down (Nat.zero_le _) hl)).down (Nat.zero_le _) (Nat.le_refl _)).mono (by omega)
theorem opt_len {t t' : Txt} (ht : t' = t ∨ t' = 40 :: (t ++ [41])) : t'.length ≤ t.length + 2 := by
  rcases ht with rfl | rfl <;> simp
end
end Q

set_option maxRecDepth 100000
set_option maxHeartbeats 4000000
/-! P14k: loose texts; what is the same. -/
namespace Q
open PySem Dx
theorem c_same (d : Nat) (as : List W) : (Cd (d + 1)).call 9 as = runD (Cd d) f_law_same (arrW as [.ix 0, .ix 1]) := envD_call rfl rfl as
section
variable {L : Hh} {Q E : RQ}
theorem eqv_bl (a b : Bool) : PyData.eqv (.bool a) (.bool b) = (a == b) := by cases a <;> cases b <;> rfl
@[simp] theorem wp_eqB {a b : Bool} : wp (cmpop .eq (.bl a) (.bl b)) L Q E = Q (.bl (a == b)) L := by
  rw [wp_eq]
  have s1 : ∀ b : Bool, SeqAt.shaped (.bool b) = true := by decide
  simp [asData, s1, eqv_bl]
@[simp] theorem wp_neB {a b : Bool} : wp (cmpop .ne (.bl a) (.bl b)) L Q E = Q (.bl (!(a == b))) L := by
  rw [wp_neq]
  have s1 : ∀ b : Bool, SeqAt.shaped (.bool b) = true := by decide
  simp [asData, s1, eqv_bl]
end
inductive SameV : Nat → W → Prop
  | str {n : Nat} {t : Txt} (h : okT t = true) : SameV n (.str t)
  | tup {n : Nat} {ws : List W} (h : ∀ w ∈ ws, SameV n w) (hl : ws.length < 1000) : SameV (n + 1) (.tup ws)
theorem SameV.mono {n m : Nat} {v : W} (h : SameV n v) : n ≤ m → SameV m v := by
  induction h generalizing m with
  | str h => exact fun _ => .str h
  | tup h hl ih =>
    intro z
    obtain ⟨m, rfl⟩ : ∃ m', m = m' + 1 := ⟨m - 1, by omega⟩
    exact .tup (fun w hw => ih w hw (by omega)) hl
theorem enc_same : ∀ p : Pt, ok p → SameV (ht p) (enc p)
  | .lt c, h => .tup (n := 0) (fun w hw => by
      simp at hw
      rcases hw with rfl | rfl
      · exact .str (by decide)
      · exact .str (by simp [small_lt h])) (by simp)
  | .any, h => .tup (n := 0) (fun w hw => by
      simp at hw
      subst hw
      exact .str (by decide)) (by simp)
  | .emp, h => .tup (n := 0) (fun w hw => by
      simp at hw
      subst hw
      exact .str (by decide)) (by simp)
  | .sg s p, h => .tup (fun w hw => by
      simp at hw
      rcases hw with rfl | rfl
      · exact .str (by cases s <;> decide)
      · exact enc_same p h) (by simp)
  | .nt p, h => .tup (fun w hw => by
      simp at hw
      rcases hw with rfl | rfl
      · exact .str (by decide)
      · exact enc_same p h) (by simp)
  | .db b p q, h => .tup (n := max (ht p) (ht q)) (fun w hw => by
      simp at hw
      rcases hw with rfl | rfl | rfl
      · exact .str (by cases b <;> decide)
      · exact (enc_same p h.1).mono (by omega)
      · exact (enc_same q h.2).mono (by omega)) (by simp)
theorem mapM_bls (k : Nat) : (List.replicate k (W.bl true)).mapM blOf = some (List.replicate k true) := by
  induction k with
  | zero => rfl
  | succ k ih => rw [List.replicate_succ, List.mapM_cons, ih]; rfl
theorem wp_allT {L : Hh} {Q E : RQ} {l k : Nat} (h : L[l]? = some (.lst (List.replicate k (W.bl true)))) : wp (callB .allf [.ref l]) L Q E = Q (.bl true) L := by
  show wp (match (itemsOf L (.ref l)).bind fun ws => ws.mapM blOf with
    | some bs => ret (.bl (bs.all id))
    | none => fail) L Q E = _
  rw [itemsOf_lst h, Option.bind_some, mapM_bls]
  simp
theorem same_ok {n : Nat} {v : W} (h : SameV n v) : ∀ (d : Nat) (L : Hh) (Q E : RQ), n ≤ d → (∀ L', Ext L L' → Q (.bl true) L') → wp (runD (Cd d) f_law_same [v, v]) L Q E := by
  induction h with
  | @str n t h =>
    intro d L Q E hd hq
    refine wp_runD (by simp [f_law_same]) ?_
    simp [f_law_same, isNone, isKind, anyKind, typeNm, h]
    exact hq L (Ext.refl L)
  | @tup n ws h hl ih =>
    intro d L Q E hd hq
    obtain ⟨d, rfl⟩ : ∃ d', d = d' + 1 := ⟨d - 1, by omega⟩
    refine wp_runD (by simp [f_law_same]) ?_
    have szl : (1000 : Nat) < sizeLine := by rw [sizeLine_eq]; omega
    simp [f_law_same, isNone, isKind, anyKind, typeNm]
    refine loopC_inv (n := ws.length) (fun i acc L' => Ext L L' ∧ acc = List.replicate i (W.bl true)) (fun i acc L' hi ⟨h1, h2⟩ => ?_) (fun acc L' ⟨h1, h2⟩ => ?_) _ 0 [] _ (lt_fuel (by omega)) (Nat.zero_le _) ⟨Ext.refl L, rfl⟩
    · refine ⟨.tup [ws[i], ws[i]], by simp [srcAt, hi], ?_⟩
      simp [wp_turnC, wipeF, c_same, arrW]
      refine ih ws[i] (List.getElem_mem hi) d L' _ _ (by omega) fun L2 k2 => ?_
      exact ⟨by rw [h2]; simp; omega, h1.trans k2, by rw [h2, List.replicate_succ']⟩
    · refine ⟨by simp [srcAt], ?_⟩
      subst h2
      rw [wp_allT get_new]
      exact hq _ (h1.trans (Ext.app _))
theorem same_lst {n d a b : Nat} {ws : List W} {L : Hh} {Q E : RQ} (ha : L[a]? = some (.lst ws)) (hb : L[b]? = some (.lst ws)) (h : ∀ w ∈ ws, SameV n w) (hl : ws.length < 1000) (hd : n + 1 ≤ d) (hq : ∀ L', Ext L L' → Q (.bl true) L') : wp (runD (Cd d) f_law_same [.ref a, .ref b]) L Q E := by
  obtain ⟨d, rfl⟩ : ∃ d', d = d' + 1 := ⟨d - 1, by omega⟩
  refine wp_runD (by simp [f_law_same]) ?_
  have szl : (1000 : Nat) < sizeLine := by rw [sizeLine_eq]; omega
  simp [f_law_same, isNone, isKind, anyKind, typeNm, ha, hb, itemsOf]
  refine loopC_inv (n := ws.length) (fun i acc L' => Ext L L' ∧ acc = List.replicate i (W.bl true)) (fun i acc L' hi ⟨h1, h2⟩ => ?_) (fun acc L' ⟨h1, h2⟩ => ?_) _ 0 [] _ (lt_fuel (by omega)) (Nat.zero_le _) ⟨Ext.refl L, rfl⟩
  · refine ⟨.tup [ws[i], ws[i]], by simp [srcAt, itemsOf, h1 a _ ha, h1 b _ hb, hi], ?_⟩
    simp [wp_turnC, wipeF, c_same, arrW]
    refine same_ok (h ws[i] (List.getElem_mem hi)) d L' _ _ (by omega) fun L2 k2 => ?_
    exact ⟨by rw [h2]; simp; omega, h1.trans k2, by rw [h2, List.replicate_succ']⟩
  · refine ⟨by simp [srcAt, itemsOf, h1 a _ ha, h1 b _ hb], ?_⟩
    subst h2
    rw [wp_allT get_new]
    exact hq _ (h1.trans (Ext.app _))
theorem add_ok {a b : Txt} {L : Hh} {Q E : RQ} (h : a.length + b.length < 100000) (hq : Q (.str (a ++ b)) L) : wp (binop .add (.str a) (.str b)) L Q E := by
  rw [wp_addS, if_pos (lenOk_lt h)]
  exact hq
theorem loose_ok {l c : Nat} {is : List Int} : ∀ (p : Pt) (d : Nat) (L : Hh) (Q E : RQ), HandAt L l c is → ok p → 8 * sz p < 900 → ht p + 2 ≤ d → (∀ t L', Rd 0 (2 * ht p) p t → t.length + 2 ≤ 8 * sz p → HandAt L' l c is → Keep l L L' → Q (.str t) L') → wp (runD (Cd d) f_law_loose [.ref l, enc p]) L Q E
  | .lt a, d, L, Q, E, h, hp, hs, hd, hq => by
    obtain ⟨d, rfl⟩ : ∃ d', d = d' + 1 := ⟨d - 1, by omega⟩
    rw [loose_eq]
    refine wp_runD (by simp) ?_
    simp [enc, L2.atI, L2.ixN, eqW, Dx.flatW, c_written, arrW]
    refine wr_ok (.lt a) d 0 L _ _ (by omega) hp (by simp [sz]) (by simp only [ht] at hd ⊢; omega) fun L1 k1 => ?_
    refine lE_ok (hand_ext h k1) (by simp [par, body, rank]) fun t' L2 ht' h2 k2 => ?_
    have := opt_len ht'
    refine hq t' L2 (rd_opt (Rd.lt (n := 0) hp) (by omega) (by simpa [par, body, rank] using ht') (by simp [ht])) (by simp [par, body, rank, sz] at this ⊢; omega) h2 (k1.kp.trans k2)
  | .any, d, L, Q, E, h, hp, hs, hd, hq => by
    obtain ⟨d, rfl⟩ : ∃ d', d = d' + 1 := ⟨d - 1, by omega⟩
    rw [loose_eq]
    refine wp_runD (by simp) ?_
    simp [enc, L2.atI, L2.ixN, eqW, Dx.flatW, c_written, arrW]
    refine wr_ok .any d 0 L _ _ (by omega) hp (by simp [sz]) (by simp only [ht] at hd ⊢; omega) fun L1 k1 => ?_
    refine lE_ok (hand_ext h k1) (by simp [par, body, rank]) fun t' L2 ht' h2 k2 => ?_
    have := opt_len ht'
    refine hq t' L2 (rd_opt (Rd.any (n := 0)) (by omega) (by simpa [par, body, rank] using ht') (by simp [ht])) (by simp [par, body, rank, sz] at this ⊢; omega) h2 (k1.kp.trans k2)
  | .emp, d, L, Q, E, h, hp, hs, hd, hq => by
    obtain ⟨d, rfl⟩ : ∃ d', d = d' + 1 := ⟨d - 1, by omega⟩
    rw [loose_eq]
    refine wp_runD (by simp) ?_
    simp [enc, L2.atI, L2.ixN, eqW, Dx.flatW, c_written, arrW]
    refine wr_ok .emp d 0 L _ _ (by omega) hp (by simp [sz]) (by simp only [ht] at hd ⊢; omega) fun L1 k1 => ?_
    refine lE_ok (hand_ext h k1) (by simp [par, body, rank]) fun t' L2 ht' h2 k2 => ?_
    have := opt_len ht'
    refine hq t' L2 (rd_opt (Rd.emp (n := 0)) (by omega) (by simpa [par, body, rank] using ht') (by simp [ht])) (by simp [par, body, rank, sz] at this ⊢; omega) h2 (k1.kp.trans k2)
  | .sg s p, d, L, Q, E, h, hp, hs, hd, hq => by
    simp only [ht, sz] at hd hs
    obtain ⟨d, rfl⟩ : ∃ d', d = d' + 1 := ⟨d - 1, by omega⟩
    rw [loose_eq]
    refine wp_runD (by simp) ?_
    have key : ∀ (Q E : RQ), (∀ t L', Rd 0 (2 * ht p) p t → t.length + 2 ≤ 8 * sz p → HandAt L' l c is → Keep l L L' → Q (.str t) L') → wp (runD (Cd d) f_law_loose [.ref l, enc p]) L Q E := fun Q E hq => loose_ok p d L Q E h hp (by omega) (by omega) hq
    cases s with
    | star =>
      simp [enc, L2.atI, L2.ixN, Sg.w, eqW, Dx.flatW, c_loose, arrW]
      refine key _ _ fun t L1 hr ht1 h1 k1 => ?_
      have l1 : lenOk (1 + t.length) = true := lenOk_lt (by omega)
      have l2 : lenOk (t.length + 1) = true := lenOk_lt (by omega)
      have l3 : lenOk (t.length + 1 + 1) = true := lenOk_lt (by omega)
      have l4 : lenOk (1 + t.length + 1) = true := lenOk_lt (by omega)
      have l5 : lenOk (t.length + 1 + 1 + 1) = true := lenOk_lt (by omega)
      have l6 : lenOk (1 + t.length + 1 + 1) = true := lenOk_lt (by omega)
      simp [l1, l2, l3, l4, l5]
      refine sgD_ok (s := .star) (by rfl) fun L2 k2 => ?_
      simp [Sg.c, l1, l2, l3, l4, l5, l6]
      refine lE_ok (hand_ext h1 k2) (by simp; omega) fun t' L3 ht' h3 k3 => ?_
      have := opt_len ht'
      refine hq t' L3 (rd_opt (lv := 4) (n := 2 * ht p + 1) (Rd.sg .star (Rd.par hr).up4) (by omega) (by simpa [Sg.c] using ht') (by simp only [ht]; omega)) (by simp [sz] at this ⊢; omega) h3 (k1.trans (k2.kp.trans k3))
    | plus =>
      simp [enc, L2.atI, L2.ixN, Sg.w, eqW, Dx.flatW, c_loose, arrW]
      refine key _ _ fun t L1 hr ht1 h1 k1 => ?_
      have l1 : lenOk (1 + t.length) = true := lenOk_lt (by omega)
      have l2 : lenOk (t.length + 1) = true := lenOk_lt (by omega)
      have l3 : lenOk (t.length + 1 + 1) = true := lenOk_lt (by omega)
      have l4 : lenOk (1 + t.length + 1) = true := lenOk_lt (by omega)
      have l5 : lenOk (t.length + 1 + 1 + 1) = true := lenOk_lt (by omega)
      have l6 : lenOk (1 + t.length + 1 + 1) = true := lenOk_lt (by omega)
      simp [l1, l2, l3, l4, l5]
      refine sgD_ok (s := .plus) (by rfl) fun L2 k2 => ?_
      simp [Sg.c, l1, l2, l3, l4, l5, l6]
      refine lE_ok (hand_ext h1 k2) (by simp; omega) fun t' L3 ht' h3 k3 => ?_
      have := opt_len ht'
      refine hq t' L3 (rd_opt (lv := 4) (n := 2 * ht p + 1) (Rd.sg .plus (Rd.par hr).up4) (by omega) (by simpa [Sg.c] using ht') (by simp only [ht]; omega)) (by simp [sz] at this ⊢; omega) h3 (k1.trans (k2.kp.trans k3))
    | maybe =>
      simp [enc, L2.atI, L2.ixN, Sg.w, eqW, Dx.flatW, c_loose, arrW]
      refine key _ _ fun t L1 hr ht1 h1 k1 => ?_
      have l1 : lenOk (1 + t.length) = true := lenOk_lt (by omega)
      have l2 : lenOk (t.length + 1) = true := lenOk_lt (by omega)
      have l3 : lenOk (t.length + 1 + 1) = true := lenOk_lt (by omega)
      have l4 : lenOk (1 + t.length + 1) = true := lenOk_lt (by omega)
      have l5 : lenOk (t.length + 1 + 1 + 1) = true := lenOk_lt (by omega)
      have l6 : lenOk (1 + t.length + 1 + 1) = true := lenOk_lt (by omega)
      simp [l1, l2, l3, l4, l5]
      refine sgD_ok (s := .maybe) (by rfl) fun L2 k2 => ?_
      simp [Sg.c, l1, l2, l3, l4, l5, l6]
      refine lE_ok (hand_ext h1 k2) (by simp; omega) fun t' L3 ht' h3 k3 => ?_
      have := opt_len ht'
      refine hq t' L3 (rd_opt (lv := 4) (n := 2 * ht p + 1) (Rd.sg .maybe (Rd.par hr).up4) (by omega) (by simpa [Sg.c] using ht') (by simp only [ht]; omega)) (by simp [sz] at this ⊢; omega) h3 (k1.trans (k2.kp.trans k3))
  | .nt p, d, L, Q, E, h, hp, hs, hd, hq => by
    simp only [ht, sz] at hd hs
    obtain ⟨d, rfl⟩ : ∃ d', d = d' + 1 := ⟨d - 1, by omega⟩
    rw [loose_eq]
    refine wp_runD (by simp) ?_
    have key : ∀ (Q E : RQ), (∀ t L', Rd 0 (2 * ht p) p t → t.length + 2 ≤ 8 * sz p → HandAt L' l c is → Keep l L L' → Q (.str t) L') → wp (runD (Cd d) f_law_loose [.ref l, enc p]) L Q E := fun Q E hq => loose_ok p d L Q E h hp (by omega) (by omega) hq
    simp [enc, L2.atI, L2.ixN, eqW, Dx.flatW, c_loose, arrW]
    refine key _ _ fun t L1 hr ht1 h1 k1 => ?_
    have l1 : lenOk (1 + t.length) = true := lenOk_lt (by omega)
    have l2 : lenOk (t.length + 1) = true := lenOk_lt (by omega)
    have l3 : lenOk (t.length + 1 + 1) = true := lenOk_lt (by omega)
    have l4 : lenOk (1 + t.length + 1) = true := lenOk_lt (by omega)
    have l5 : lenOk (1 + (t.length + 1 + 1)) = true := lenOk_lt (by omega)
    simp [l1, l2, l3, l4, l5]
    refine lE_ok h1 (by simp; omega) fun t' L2 ht' h2 k2 => ?_
    have := opt_len ht'
    refine hq t' L2 (rd_opt (lv := 3) (n := 2 * ht p + 1) (Rd.nt ((Rd.par hr).down (by omega) (by omega))) (by omega) ht' (by simp only [ht]; omega)) (by simp [sz] at this ⊢; omega) h2 (k1.trans k2)
  | .db b p q, d, L, Q, E, h, hp, hs, hd, hq => by
    simp only [ht, sz] at hd hs
    obtain ⟨d, rfl⟩ : ∃ d', d = d' + 1 := ⟨d - 1, by omega⟩
    rw [loose_eq]
    refine wp_runD (by simp) ?_
    have key1 : ∀ (Q E : RQ), (∀ t L', Rd 0 (2 * ht p) p t → t.length + 2 ≤ 8 * sz p → HandAt L' l c is → Keep l L L' → Q (.str t) L') → wp (runD (Cd d) f_law_loose [.ref l, enc p]) L Q E := fun Q E hq => loose_ok p d L Q E h hp.1 (by omega) (by omega) hq
    have key2 : ∀ (L : Hh) (Q E : RQ), HandAt L l c is → (∀ t L', Rd 0 (2 * ht q) q t → t.length + 2 ≤ 8 * sz q → HandAt L' l c is → Keep l L L' → Q (.str t) L') → wp (runD (Cd d) f_law_loose [.ref l, enc q]) L Q E := fun L Q E h hq => loose_ok q d L Q E h hp.2 (by omega) (by omega) hq
    cases b with
    | either =>
      simp [enc, L2.atI, L2.ixN, Db.w, eqW, Dx.flatW, c_loose, arrW]
      refine key1 _ _ fun t L1 hr ht1 h1 k1 => ?_
      have l1 : lenOk (1 + t.length) = true := lenOk_lt (by omega)
      have l2 : lenOk (t.length + 1) = true := lenOk_lt (by omega)
      have l3 : lenOk (t.length + 1 + 1) = true := lenOk_lt (by omega)
      have l4 : lenOk (1 + t.length + 1) = true := lenOk_lt (by omega)
      have l5 : ∀ k, k ≤ 10 → lenOk (t.length + k) = true := fun k hk => lenOk_lt (by omega)
      simp [l1, l2, l3, l4, l5]
      refine dbD_ok (b := .either) (by rfl) fun L2 k2 => ?_
      have l6 : lenOk (t.length + 1 + 1 + 1) = true := lenOk_lt (by omega)
      have l7 : lenOk (t.length + 2 + 1 + 1) = true := lenOk_lt (by omega)
      simp [Db.s, l1, l2, l3, l4, l5, l6, l7]
      refine key2 _ _ _ (hand_ext h1 k2) fun u L3 hu hu1 h3 k3 => ?_
      refine add_ok (by simp; omega) ?_
      refine add_ok (by simp; omega) ?_
      refine lE_ok h3 (by simp; omega) fun t' L4 ht' h4 k4 => ?_
      have := opt_len ht'
      have r1 : Rd 0 (2 * max (ht p) (ht q) + 1) p t := hr.mono (by omega)
      have r2 : Rd 0 (2 * max (ht p) (ht q)) q u := hu.mono (by omega)
      have rr := Rd.db .either ((Rd.par (hr.mono (m := 2 * max (ht p) (ht q)) (by omega))).down (b := 0) (by omega) (by omega)) ((Rd.par r2).down (b := 1) (by omega) (by omega))
      refine hq t' L4 (rd_opt rr (by decide) (by simpa [Db.s] using ht') (by simp only [ht]; omega)) (by simp [sz] at this ⊢; omega) h4 (k1.trans (k2.kp.trans (k3.trans k4)))
    | both =>
      simp [enc, L2.atI, L2.ixN, Db.w, eqW, Dx.flatW, c_loose, arrW]
      refine key1 _ _ fun t L1 hr ht1 h1 k1 => ?_
      have l1 : lenOk (1 + t.length) = true := lenOk_lt (by omega)
      have l2 : lenOk (t.length + 1) = true := lenOk_lt (by omega)
      have l3 : lenOk (t.length + 1 + 1) = true := lenOk_lt (by omega)
      have l4 : lenOk (1 + t.length + 1) = true := lenOk_lt (by omega)
      have l5 : ∀ k, k ≤ 10 → lenOk (t.length + k) = true := fun k hk => lenOk_lt (by omega)
      simp [l1, l2, l3, l4, l5]
      refine dbD_ok (b := .both) (by rfl) fun L2 k2 => ?_
      have l6 : lenOk (t.length + 1 + 1 + 1) = true := lenOk_lt (by omega)
      have l7 : lenOk (t.length + 2 + 1 + 1) = true := lenOk_lt (by omega)
      simp [Db.s, l1, l2, l3, l4, l5, l6, l7]
      refine key2 _ _ _ (hand_ext h1 k2) fun u L3 hu hu1 h3 k3 => ?_
      refine add_ok (by simp; omega) ?_
      refine add_ok (by simp; omega) ?_
      refine lE_ok h3 (by simp; omega) fun t' L4 ht' h4 k4 => ?_
      have := opt_len ht'
      have r1 : Rd 0 (2 * max (ht p) (ht q) + 1) p t := hr.mono (by omega)
      have r2 : Rd 0 (2 * max (ht p) (ht q)) q u := hu.mono (by omega)
      have rr := Rd.db .both ((Rd.par (hr.mono (m := 2 * max (ht p) (ht q)) (by omega))).down (b := 1) (by omega) (by omega)) ((Rd.par r2).down (b := 2) (by omega) (by omega))
      refine hq t' L4 (rd_opt rr (by decide) (by simpa [Db.s] using ht') (by simp only [ht]; omega)) (by simp [sz] at this ⊢; omega) h4 (k1.trans (k2.kp.trans (k3.trans k4)))
    | join =>
      simp [enc, L2.atI, L2.ixN, Db.w, eqW, Dx.flatW, c_loose, arrW]
      refine key1 _ _ fun t L1 hr ht1 h1 k1 => ?_
      have l1 : lenOk (1 + t.length) = true := lenOk_lt (by omega)
      have l2 : lenOk (t.length + 1) = true := lenOk_lt (by omega)
      have l3 : lenOk (t.length + 1 + 1) = true := lenOk_lt (by omega)
      have l4 : lenOk (1 + t.length + 1) = true := lenOk_lt (by omega)
      have l5 : ∀ k, k ≤ 10 → lenOk (t.length + k) = true := fun k hk => lenOk_lt (by omega)
      simp [l1, l2, l3, l4, l5]
      refine dbD_ok (b := .join) (by rfl) fun L2 k2 => ?_
      have l6 : lenOk (t.length + 1 + 1 + 1) = true := lenOk_lt (by omega)
      have l7 : lenOk (t.length + 2 + 1 + 1) = true := lenOk_lt (by omega)
      simp [Db.s, l1, l2, l3, l4, l5, l6, l7]
      refine key2 _ _ _ (hand_ext h1 k2) fun u L3 hu hu1 h3 k3 => ?_
      refine add_ok (by simp; omega) ?_
      refine add_ok (by simp; omega) ?_
      refine lE_ok h3 (by simp; omega) fun t' L4 ht' h4 k4 => ?_
      have := opt_len ht'
      have r1 : Rd 0 (2 * max (ht p) (ht q) + 1) p t := hr.mono (by omega)
      have r2 : Rd 0 (2 * max (ht p) (ht q)) q u := hu.mono (by omega)
      have rr := Rd.db .join ((Rd.par (hr.mono (m := 2 * max (ht p) (ht q)) (by omega))).down (b := 2) (by omega) (by omega)) ((Rd.par r2).down (b := 3) (by omega) (by omega))
      refine hq t' L4 (rd_opt rr (by decide) (by simpa [Db.s] using ht') (by simp only [ht]; omega)) (by simp [sz] at this ⊢; omega) h4 (k1.trans (k2.kp.trans (k3.trans k4)))
end Q

set_option maxRecDepth 100000
set_option maxHeartbeats 4000000
/-! P14l: the plain law. -/
namespace Q
open PySem Dx
section
variable (d : Nat) (as : List W)
theorem c_ptext : (Cd (d + 1)).call 4 as = runD (Cd d) f_pattern_text (arrW as [.ix 0]) := envD_call rfl rfl as
theorem c_read : (Cd (d + 1)).call 5 as = runD (Cd d) f_read_pattern (arrW as [.ix 0]) := envD_call rfl rfl as
theorem c_readK : (Cd (d + 1)).call 6 as = runD (Cd d) f_read_pattern (arrW as [.ix 0]) := envD_call rfl rfl as
theorem c_ptextK : (Cd (d + 1)).call 8 as = runD (Cd d) f_pattern_text (arrW as [.ix 0]) := envD_call rfl rfl as
end
theorem get2a {L : Hh} {a b : O} : (L ++ [a, b])[L.length]? = some a := by simp
theorem get2b {L : Hh} {a b : O} : (L ++ [a, b])[L.length + 1]? = some b := by simp
def lB : List Sm := [
    .asg (.nm 4) (.call 2 [(.var 1), (.var 2), (.ki 5)] []),
    .asg (.nm 5) (.call 3 [(.var 4), (.ki 0)] []),
    .asg (.nm 6) (.lst [(.call 4 [(.var 4)] []), (.call 5 [(.var 5)] []), (.call 6 [] [(.call 7 [(.var 1), (.var 4)] [])]), (.call 8 [] [(.call 5 [(.var 5)] [])])]),
    .ifs (.nt (.val (.call 9 [(.var 6), (.lst [(.var 5), (.var 4), (.var 4), (.var 5)])] []))) [
      .rtn (.kb false)] []]
def lTail : List Sm := [
  .asg (.tup [(.nm 7), (.nm 8), (.nm 9)]) (.tup [(.tup [(.ks [108, 101, 116, 116, 101, 114]), (.ks [97])]), (.tup [(.ks [108, 101, 116, 116, 101, 114]), (.ks [98])]), (.tup [(.ks [108, 101, 116, 116, 101, 114]), (.ks [99])])]),
  .asg (.nm 6) (.lst [(.call 5 [(.ks [97, 98, 99])] []), (.call 5 [(.ks [97, 124, 98, 38, 99])] []), (.call 5 [(.ks [33, 97, 98, 42, 124, 99])] []), (.call 5 [(.ks [33, 33, 97])] []), (.call 5 [(.ks [97, 63, 43])] []), (.call 5 [(.ks [97, 40, 98, 99, 41])] [])]),
  .asg (.nm 10) (.lst [(.tup [(.ks [106, 111, 105, 110]), (.tup [(.ks [106, 111, 105, 110]), (.var 7), (.var 8)]), (.var 9)]), (.tup [(.ks [101, 105, 116, 104, 101, 114]), (.var 7), (.tup [(.ks [98, 111, 116, 104]), (.var 8), (.var 9)])]), (.tup [(.ks [101, 105, 116, 104, 101, 114]), (.tup [(.ks [106, 111, 105, 110]), (.tup [(.ks [110, 111, 116]), (.var 7)]), (.tup [(.ks [115, 116, 97, 114]), (.var 8)])]), (.var 9)]), (.tup [(.ks [110, 111, 116]), (.tup [(.ks [110, 111, 116]), (.var 7)])]), (.tup [(.ks [112, 108, 117, 115]), (.tup [(.ks [109, 97, 121, 98, 101]), (.var 7)])]), (.tup [(.ks [106, 111, 105, 110]), (.var 7), (.tup [(.ks [106, 111, 105, 110]), (.var 8), (.var 9)])])]),
  .rtn (.band [(.call 9 [(.var 6), (.var 10)] []), (.cmp .eq (.call 5 [(.ks [40, 41])] []) (.tup [(.ks [101, 109, 112, 116, 121])])), (.cmp .eq (.call 5 [(.ks [40, 46, 41])] []) (.tup [(.ks [97, 110, 121])]))])]
theorem law_eq : f_law = ⟨11, .asg (.nm 1) (.call 0 [(.var 0)] []) :: .asg (.nm 2) (.call 1 [(.var 1), (.ki 3)] []) :: .fors (.nm 3) (.rng [(.ki 6)]) lB :: lTail⟩ := rfl
theorem sz_ht : ∀ p : Pt, sz p + 1 ≤ 2 ^ ht p
  | .lt _ => by simp [sz, ht]
  | .any => by simp [sz, ht]
  | .emp => by simp [sz, ht]
  | .sg s p => by
    have := sz_ht p
    simp only [sz, ht, Nat.pow_succ]
    omega
  | .nt p => by
    have := sz_ht p
    simp only [sz, ht, Nat.pow_succ]
    omega
  | .db b p q => by
    have h1 := sz_ht p
    have h2 := sz_ht q
    have h3 : 2 ^ ht p ≤ 2 ^ max (ht p) (ht q) := Nat.pow_le_pow_right (by omega) (by omega)
    have h4 : 2 ^ ht q ≤ 2 ^ max (ht p) (ht q) := Nat.pow_le_pow_right (by omega) (by omega)
    simp only [sz, ht, Nat.pow_succ]
    omega
theorem sz_31 {p : Pt} (h : ht p ≤ 5) : sz p ≤ 31 := by
  have h1 := sz_ht p
  have h2 : 2 ^ ht p ≤ 2 ^ 5 := Nat.pow_le_pow_right (by omega) h
  omega
theorem eq_enc {p : Pt} {L : Hh} {Q E : RQ} (hp : ok p) (hh : ht p ≤ 60) (hq : Q (.bl true) L) : wp (cmpop .eq (enc p) (enc p)) L Q E := by
  rw [wp_eq]
  have e := asData_enc (L := L) p 64 (by omega)
  have d1 := dep_enc p
  have s1 : SeqAt.shaped (encD p) = true := by
    unfold SeqAt.shaped
    rw [lay_enc p hp, Bool.true_and, decide_eq_true_eq]
    omega
  rw [e]
  simp only [s1, Bool.and_self, if_true, SeqAt.eqv_refl _ (lay_enc p hp)]
  exact hq
theorem turn_ok {l c : Nat} {is : List Int} {sg : Txt} {F : FQ} {E : RQ} {L : Hh} {a0 a3 a4 a5 a6 a7 a8 a9 a10 : Option W} (h : HandAt L l c is) (h3 : sg.length = 3) (hs : ∀ c ∈ sg, c ∈ small)
    (hq : ∀ L' b4 b5 b6, HandAt L' l c is → F (.nx, [a0, some (.ref l), some (.str sg), a3, b4, b5, b6, a7, a8, a9, a10]) L') :
    wp (exSs (Cd 120) lB [a0, some (.ref l), some (.str sg), a3, a4, a5, a6, a7, a8, a9, a10]) L F E := by
  have pat : ∀ (Q E : RQ), (∀ p L', ok p → ht p ≤ 5 → HandAt L' l c is → Keep l L L' → Q (enc p) L') → wp ((Cd 120).call 2 [.ref l, .str sg, .int 5]) L Q E := fun Q E hq => by
    rw [c_pattern]
    exact pat_ok (by omega) (by omega) hs 4 119 L Q E h (by omega) hq
  simp [lB]
  refine pat _ _ fun p L1 hp hh h1 k1 => ?_
  have h31 := sz_31 hh
  have hb := body_len p
  rw [c_written]
  refine wr_ok p 119 0 L1 _ _ (by omega) hp (by omega) (by omega) fun L2 k2 => ?_
  have e0 : par 0 p (body p) = body p := if_pos (Nat.zero_le _)
  rw [e0]
  have lb : lenOk (body p).length = true := lenOk_lt (by omega)
  rw [c_ptext]
  refine ptext_ok hp (by omega) (by omega) (by omega) fun L3 k3 => ?_
  rw [c_read]
  refine read_ok (rd_body0 p hp) (by omega) lb (by omega) hp (by omega) (by omega) fun L4 k4 => ?_
  rw [c_loose]
  refine loose_ok p 119 L4 _ _ (hand_ext h1 (k2.trans (k3.trans k4))) hp (by omega) (by omega) fun t L5 hr hl h5 k5 => ?_
  rw [c_readK]
  refine read_ok hr (by omega) (lenOk_lt (by omega)) (by omega) hp (by omega) (by omega) fun L6 k6 => ?_
  refine read_ok (rd_body0 p hp) (by omega) lb (by omega) hp (by omega) (by omega) fun L7 k7 => ?_
  rw [c_ptextK]
  refine ptext_ok hp (by omega) (by omega) (by omega) fun L8 k8 => ?_
  rw [c_same]
  refine same_lst (n := ht p) (ws := [.str (body p), enc p, enc p, .str (body p)]) get2a get2b (fun w hw => ?_) (by simp) (by omega) fun L9 k9 => ?_
  · simp at hw
    rcases hw with rfl | rfl | rfl
    · exact .str (rd_body0 p hp).okT
    · exact enc_same p hp
    · exact .str (rd_body0 p hp).okT
  · simp
    exact hq _ _ _ _ (hand_ext h5 (k6.trans (k7.trans (k8.trans (Ext.trans (Ext.app _) k9)))))
/-! ### written texts -/
theorem rd_lt {n c : Nat} (lv : Nat) (h : c ∈ small) (hl : lv ≤ 5) : Rd lv n (.lt c) [c] := (Rd.lt h).down hl (Nat.le_refl _)
theorem cread {p : Pt} {t : Txt} {L : Hh} {Q E : RQ} (h : Rd 0 9 p t) (hl : t.length < 1000) (hp : ok p) (h1 : ht p ≤ 12) (h2 : sz p ≤ 40) (hq : ∀ L', Ext L L' → Q (enc p) L') : wp ((Cd 120).call 5 [.str t]) L Q E := by
  rw [c_read]
  exact read_ok h (by omega) (lenOk_lt (by omega)) (by omega) hp h1 h2 hq
abbrev pa : Pt := .lt 97
abbrev pb : Pt := .lt 98
abbrev pc : Pt := .lt 99
theorem r1 : Rd 0 9 (.db .join (.db .join pa pb) pc) [97, 98, 99] := (Rd.db .join (Rd.db .join (rd_lt 2 (by decide) (by omega)) (rd_lt 3 (by decide) (by omega))) (rd_lt 3 (by decide) (by omega))).down (b := 0) (by decide) (by decide)
theorem r2 : Rd 0 9 (.db .either pa (.db .both pb pc)) [97, 124, 98, 38, 99] := Rd.db .either (rd_lt 0 (by decide) (by omega)) (Rd.db .both (rd_lt 1 (by decide) (by omega)) (rd_lt 2 (by decide) (by omega)))
theorem r3 : Rd 0 9 (.db .either (.db .join (.nt pa) (.sg .star pb)) pc) [33, 97, 98, 42, 124, 99] := Rd.db .either ((Rd.db .join ((Rd.nt (rd_lt 3 (by decide) (by omega))).down (b := 2) (by omega) (by omega)) ((Rd.sg .star (rd_lt 4 (by decide) (by omega))).up3)).down (b := 0) (by decide) (by decide)) (rd_lt 1 (by decide) (by omega))
theorem r4 : Rd 0 9 (.nt (.nt pa)) [33, 33, 97] := (Rd.nt (Rd.nt (rd_lt 3 (by decide) (by omega)))).down (b := 0) (by omega) (by omega)
theorem r5 : Rd 0 9 (.sg .plus (.sg .maybe pa)) [97, 63, 43] := (Rd.sg .plus (Rd.sg .maybe (rd_lt 4 (by decide) (by omega)))).down (b := 0) (by omega) (by omega)
theorem r6 : Rd 0 9 (.db .join pa (.db .join pb pc)) [97, 40, 98, 99, 41] := (Rd.db .join (rd_lt 2 (by decide) (by omega)) ((Rd.par (n := 8) ((Rd.db .join (rd_lt 2 (by decide) (by omega)) (rd_lt 3 (by decide) (by omega))).down (b := 0) (by decide) (by decide))).down (b := 3) (by omega) (by omega))).down (b := 0) (by decide) (by decide)
theorem r7 : Rd 0 9 .emp [40, 41] := Rd.emp.down (b := 0) (by omega) (by omega)
theorem r8 : Rd 0 9 .any [40, 46, 41] := (Rd.par (n := 8) (Rd.any.down (b := 0) (by omega) (by omega))).down (b := 0) (by omega) (by omega)
theorem tail_ok {F : FQ} {E : RQ} {L : Hh} {a0 a1 a2 a3 a4 a5 a6 a7 a8 a9 a10 : Option W} (hq : ∀ L' ρ, F (.rt (.bl true), ρ) L') : wp (exSs (Cd 120) lTail [a0, a1, a2, a3, a4, a5, a6, a7, a8, a9, a10]) L F E := by
  have ka : ok pa := by show 97 ∈ small; decide
  have kb : ok pb := by show 98 ∈ small; decide
  have kc : ok pc := by show 99 ∈ small; decide
  simp [lTail]
  refine cread r1 (by simp) ⟨⟨ka, kb⟩, kc⟩ (by simp [ht]) (by simp [sz]) fun L1 k1 => ?_
  refine cread r2 (by simp) ⟨ka, kb, kc⟩ (by simp [ht]) (by simp [sz]) fun L2 k2 => ?_
  refine cread r3 (by simp) ⟨⟨ka, kb⟩, kc⟩ (by simp [ht]) (by simp [sz]) fun L3 k3 => ?_
  refine cread r4 (by simp) ka (by simp [ht]) (by simp [sz]) fun L4 k4 => ?_
  refine cread r5 (by simp) ka (by simp [ht]) (by simp [sz]) fun L5 k5 => ?_
  refine cread r6 (by simp) ⟨ka, kb, kc⟩ (by simp [ht]) (by simp [sz]) fun L6 k6 => ?_
  rw [c_same]
  refine same_lst (n := 5) (ws := [enc (.db .join (.db .join pa pb) pc), enc (.db .either pa (.db .both pb pc)), enc (.db .either (.db .join (.nt pa) (.sg .star pb)) pc), enc (.nt (.nt pa)), enc (.sg .plus (.sg .maybe pa)), enc (.db .join pa (.db .join pb pc))]) get2a get2b (fun w hw => ?_) (by simp) (by omega) fun L7 k7 => ?_
  · simp only [List.mem_cons, List.not_mem_nil, or_false] at hw
    rcases hw with rfl | rfl | rfl | rfl | rfl | rfl
    · exact (enc_same (.db .join (.db .join pa pb) pc) ⟨⟨ka, kb⟩, kc⟩).mono (by simp [ht])
    · exact (enc_same (.db .either pa (.db .both pb pc)) ⟨ka, kb, kc⟩).mono (by simp [ht])
    · exact (enc_same (.db .either (.db .join (.nt pa) (.sg .star pb)) pc) ⟨⟨ka, kb⟩, kc⟩).mono (by simp [ht])
    · exact (enc_same (.nt (.nt pa)) ka).mono (by simp [ht])
    · exact (enc_same (.sg .plus (.sg .maybe pa)) ka).mono (by simp [ht])
    · exact (enc_same (.db .join pa (.db .join pb pc)) ⟨ka, kb, kc⟩).mono (by simp [ht])
  · simp
    refine cread r7 (by simp) trivial (by simp [ht]) (by simp [sz]) fun L8 k8 => ?_
    simp only [enc]
    simp
    refine eq_enc (p := .emp) trivial (by simp [ht]) ?_
    simp
    refine cread r8 (by simp) trivial (by simp [ht]) (by simp [sz]) fun L9 k9 => ?_
    simp only [enc]
    simp
    refine eq_enc (p := .any) trivial (by simp [ht]) ?_
    exact hq _ _
theorem plain : Plain := by
  intro ns hn
  rw [law_eq]
  refine wp_runD (by simp) ?_
  simp
  rw [c_hand]
  refine hand_ok fun l c is L1 h1 _ => ?_
  rw [c_signs]
  refine signs_ok h1 (by omega) fun sg L2 h3 hs h2 k2 => ?_
  have s6 : smallR 6 = true := by decide
  simp [s6]
  refine loopF_inv (n := 6) (fun i ρ L' => HandAt L' l c is ∧ ∃ a0 a3 a4 a5 a6 a7 a8 a9 a10 : Option W, ρ = [a0, some (.ref l), some (.str sg), a3, a4, a5, a6, a7, a8, a9, a10]) (fun i ρ L' hi ⟨h, a0, a3, a4, a5, a6, a7, a8, a9, a10, e⟩ => ?_) (fun ρ L' ⟨h, a0, a3, a4, a5, a6, a7, a8, a9, a10, e⟩ => ?_) _ 0 _ _ (lt_fuel (by omega)) (Nat.zero_le _) ⟨h2, _, _, _, _, _, _, _, _, _, rfl⟩
  · subst e
    refine ⟨.int i, by simp [srcAt, hi], ?_⟩
    simp
    refine turn_ok h h3 hs fun L'' b4 b5 b6 h' => ?_
    exact ⟨h', _, _, _, _, _, _, _, _, _, rfl⟩
  · subst e
    refine ⟨by simp [srcAt], ?_⟩
    simp
    refine tail_ok fun L'' ρ => ?_
    rfl
theorem k14_holds : PySem.W.OpenLaw.Holds PySem.Challenge.rw_lastkept_k14_texts_of_patterns := holds_of plain
end Q

theorem PySem.Challenge.cw_lastkept_k14_texts_of_patterns_holds : PySem.Challenge.rw_lastkept_k14_texts_of_patterns.Holds :=
  Q.k14_holds
