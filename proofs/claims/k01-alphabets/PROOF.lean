import PyProof.Rows.All
import Wide.All
import OpenK.AllK
import Wide.FinOn
import HandS.ForMost
import HandS.Defaults
import HandS.StrMore
import HandS.HeadHook2
import HandS.Wide
import HandS.TupAny
import PyProof.Rows.SortShellAny
import HandS.SetFor
import HandS.Strs
import HandS.ForExc
import HandS.CallSlots
import HandS.IsInst
import HandS.Zip
import HandS.SortInts
import HandS.Codes
import HandS.HeadEnd
import HandS.Head0
import HandS.Head1
import HandS.Head2
import HandS.HeadHook4
import PySem.Challenge.RW_lastkept_k01_alphabets
set_option Elab.async false
set_option linter.all false
set_option maxRecDepth 100000
/-! Dx1: the small language, its values and its evaluator (plain Lean, no machine). -/
namespace Dx
open PySem PySem.Spec

abbrev Txt := List Nat

inductive W where
  | non | bl (b : Bool) | int (i : Int) | str (x : Txt) | tup (ws : List W) | ref (l : Nat)
  | exn (c : Nat) (fs : List W) | clo (k : Nat) (cs : List Nat) | scr (ws : List W)
instance : Inhabited W := ⟨.non⟩

inductive O where
  | lst (ws : List W) | ro (ws : List W) | dct (kvs : List (W × W)) | ins (c : Nat) (fs : List (Nat × W))
abbrev Hh := List O

inductive Res (α : Type) where
  | ok (a : α) (L : Hh) | exc (e : W) (L : Hh) | bad
def M (α : Type) := Hh → Res α
@[reducible] def ret {α : Type} (a : α) : M α := fun L => .ok a L
@[reducible] def fail {α : Type} : M α := fun _ => .bad
@[reducible] def thr {α : Type} (e : W) : M α := fun L => .exc e L
def noX {α : Type} (m : M α) : M α := fun L => match m L with
  | .ok a L1 => .ok a L1
  | _ => .bad
def bnd {α β : Type} (m : M α) (f : α → M β) : M β := fun L => match m L with
  | .ok a L1 => f a L1
  | .exc e L1 => .exc e L1
  | .bad => .bad
@[reducible] def gets {α : Type} (f : Hh → M α) : M α := fun L => f L L

/-- what is wanted of a run -/
def wp {α : Type} (m : M α) (L : Hh) (Q : α → Hh → Prop) (E : W → Hh → Prop) : Prop := match m L with
  | .ok a L1 => Q a L1
  | .exc e L1 => E e L1
  | .bad => False
section
variable {α β : Type} {L : Hh} {Q : α → Hh → Prop} {E : W → Hh → Prop}
@[simp] theorem wp_ret {a : α} : wp (ret a) L Q E = Q a L := rfl
@[simp] theorem wp_fail : wp (fail : M α) L Q E = False := rfl
@[simp] theorem wp_thr {e : W} : wp (thr e : M α) L Q E = E e L := rfl
@[simp] theorem wp_gets {f : Hh → M α} : wp (gets f) L Q E = wp (f L) L Q E := rfl
@[simp] theorem wp_bnd {m : M α} {f : α → M β} {Q : β → Hh → Prop} : wp (bnd m f) L Q E = wp m L (fun a L1 => wp (f a) L1 Q E) E := by
  unfold wp bnd
  cases m L <;> rfl
@[simp] theorem wp_noX {m : M α} : wp (noX m) L Q E = wp m L Q (fun _ _ => False) := by
  unfold wp noX
  cases m L <;> rfl
theorem wp_mono {m : M α} {Q' : α → Hh → Prop} {E' : W → Hh → Prop} (h : wp m L Q E) (hq : ∀ a L, Q a L → Q' a L) (he : ∀ e L, E e L → E' e L) : wp m L Q' E' := by
  unfold wp at h ⊢
  cases e : m L with
  | ok a L1 => rw [e] at h; exact hq _ _ h
  | exc x L1 => rw [e] at h; exact he _ _ h
  | bad => rw [e] at h; exact h
end

/-! ### heaps -/
def alloc (o : O) : M W := fun L => .ok (.ref L.length) (L ++ [o])
def put (l : Nat) (o : O) : M Unit := fun L => .ok () (L.set l o)

/-! ### operations by values -/
inductive BOp where | add | sub | mul | fdiv | mod | pow
inductive COp where | eq | ne | lt | le | gt | ge | is | isn | inn | nin

def lenOk (n : Nat) : Bool := decide (n ≤ sizeLine)
/-- the value as plain data, lists read through the heap (n: a bound of the depth) -/
def asData (L : Hh) : Nat → W → Option PyData
  | _, .non => some .none
  | _, .bl b => some (.bool b)
  | _, .int i => some (.int i)
  | _, .str x => some (.str ⟨x.toArray⟩)
  | n + 1, .tup ws => (ws.mapM (asData L n)).map PyData.tuple
  | n + 1, .ref l => match L[l]? with
    | some (.lst ws) => (ws.mapM (asData L n)).map PyData.list
    | some (.ro ws) => (ws.mapM (asData L n)).map PyData.list
    | _ => none
  | _, _ => none

def smallI (i : Int) : Bool := decide (-(2 ^ 64) < i) && decide (i < 2 ^ 64)

def binop : BOp → W → W → M W
  | .add, .int i, .int j => ret (.int (i + j))
  | .add, .str x, .str y => if lenOk (x.length + y.length) then ret (.str (x ++ y)) else fail
  | .add, .tup x, .tup y => if lenOk (x.length + y.length) then ret (.tup (x ++ y)) else fail
  | .add, .ref a, .ref b => gets fun L => match L[a]?, L[b]? with
    | some (.lst x), some (.lst y) => if lenOk (x.length + y.length) then alloc (.lst (x ++ y)) else fail
    | _, _ => fail
  | .sub, .int i, .int j => ret (.int (i - j))
  | .mul, .int i, .int j => if smallI i || smallI j then ret (.int (i * j)) else fail
  | .fdiv, .int i, .int j => if decide (0 < j) && decide (j < 1073741824) then ret (.int (i / j)) else fail
  | .mod, .int i, .int j => if decide (0 < j) then ret (.int (i % j)) else fail
  | .pow, .int i, .int j => if decide (0 ≤ j) && decide (j ≤ 1000000) && decide (i.natAbs < 2 ^ 64) then ret (.int (i ^ j.toNat)) else fail
  | _, _, _ => fail

/-- == of scalars, of data -/
def eqop (x y : W) : M Bool := gets fun L => match asData L 64 x, asData L 64 y with
  | some d, some e => if SeqAt.shaped d && SeqAt.shaped e then ret (PyData.eqv d e) else fail
  | _, _ => fail

/-- x is y where y is None; flat membership -/
def isNone : W → Bool
  | .non => true
  | _ => false
/-- the places of a text's signs, as texts -/
def signs (x : Txt) : List W := x.map fun c => .str [c]
/-- [lo:hi] of n items: where it begins and how many -/
def cutI (n : Nat) (lo hi : Option Int) : Nat × Nat := (HT.sIx n 0 lo, HT.sIx n n hi - HT.sIx n 0 lo)
def cutL {α : Type} (xs : List α) (lo hi : Option Int) : List α := (xs.drop (cutI xs.length lo hi).1).take (cutI xs.length lo hi).2
/-- the item at i -/
def itemAt (x i : W) : M W := match x, i with
  | .str t, .int i => if lenOk t.length then (match L2.atI t i with | some c => ret (.str [c]) | none => fail) else fail
  | .tup ws, .int i => (match L2.atI ws i with | some w => ret w | none => fail)
  | .ref l, .int i => gets fun L => match L[l]? with
    | some (.lst ws) => (match L2.atI ws i with | some w => ret w | none => fail)
    | some (.ro ws) => (match L2.atI ws i with | some w => ret w | none => fail)
    | _ => fail
  | _, _ => fail
def sliceOf (x : W) (lo hi : Option Int) : M W := match x with
  | .str t => if lenOk t.length then ret (.str (cutL t lo hi)) else fail
  | .tup ws => ret (.tup (cutL ws lo hi))
  | .scr ws => alloc (.lst (cutL ws lo hi))
  | .ref l => gets fun L => match L[l]? with
    | some (.lst ws) => alloc (.lst (cutL ws lo hi))
    | some (.ro ws) => alloc (.lst (cutL ws lo hi))
    | _ => fail
  | _ => fail

/-! ### expressions -/
inductive Bi where | len | absf | maxf | minf | intf | allf | anyf | sortedf | listf | tuplef | strf | reprf | sumf | boolf
  deriving DecidableEq
inductive Bm where | join | append | pop | find | islower | isalpha | startswith | endswith | split | index
  deriving DecidableEq
/-- a class as isinstance has it: a built-in one, one of the program's -/
inductive Cl where | ty (n : String) | own (c : Nat)
  deriving DecidableEq
mutual
inductive Ex where
  | var (i : Nat) | kn | kb (b : Bool) | ki (i : Int) | ks (x : Txt)
  | gi (g : Str) (i : Int) | gs (g : Str) (x : Txt)
  | bin (op : BOp) (a b : Ex) | neg (a : Ex)
  | cmp (op : COp) (a b : Ex) | chn (o1 o2 : COp) (a b c : Ex)
  | band (xs : List Ex) | bor (xs : List Ex) | bnot (a : Ex)
  | ifx (c : Tx) (a b : Ex)
  | sub (a i : Ex) | slc (a : Ex) (lo hi : Option Ex)
  | lst (xs : List Ex) | tup (xs : List Ex)
  | call (t : Nat) (xs ys : List Ex)
  | bi (b : Bi) (xs : List Ex) | met (m : Bm) (o : Ex) (xs : List Ex)
  | lc (own : List (Str × Nat)) (t : Tgt) (it : It) (cs : List Tx) (x : Ex)
  | fld (o : Ex) (f : Nat) | prp (o : Ex) (m : Nat) | mcall (m : Nat) (o : Ex) (xs ys : List Ex) | mk (c : Nat) (xs ys : List Ex)
  | isi (x : Ex) (c : Cl) | isis (x : Ex) (cs : List Cl)
  | srtset (x : Ex) | lenset (x : Ex)
inductive Tx where
  | val (x : Ex) | bv (x : Ex) | all (ts : List Tx) | any (ts : List Tx) | nt (t : Tx)
inductive It where
  | e (x : Ex) | rng (xs : List Ex) | enum (x : Ex) | zip (x y : Ex)
inductive Tgt where
  | nm (i : Nat) | tup (ts : List Tgt) | sub (o i : Ex) | fld (o : Ex) (f : Nat)
end

abbrev Fr := List (Option W)
structure Env where
  call : Nat → List W → M W
  /-- a field of a class's instances, that the class itself has not -/
  cf : Nat → Nat → Bool := fun _ _ => false
  /-- a class's method, property: its target -/
  mt : Nat → Nat → Option Nat := fun _ _ => none
  pt : Nat → Nat → Option Nat := fun _ _ => none
  ini : Nat → Option Nat := fun _ => none
  /-- is a class below another -/
  sub : Nat → Nat → Bool := fun a b => a == b

def truth : W → M Bool
  | .non => ret false
  | .bl b => ret b
  | .int i => ret (i != 0)
  | .str x => if lenOk x.length then ret (!x.isEmpty) else fail
  | .tup ws => ret (!ws.isEmpty)
  | .ref l => gets fun L => match L[l]? with
    | some (.lst ws) => ret (!ws.isEmpty)
    | some (.ro ws) => ret (!ws.isEmpty)
    | _ => fail
  | _ => fail
/-- flat things, and == among them -/
def flatW : W → Bool
  | .non => true
  | .int _ => true
  | .bl _ => true
  | .str _ => true
  | _ => false
def cmpop : COp → W → W → M W
  | .eq, x, y => bnd (eqop x y) fun b => ret (.bl b)
  | .ne, x, y => bnd (eqop x y) fun b => ret (.bl (!b))
  | .lt, .int i, .int j => ret (.bl (decide (i < j)))
  | .le, .int i, .int j => ret (.bl (decide (i ≤ j)))
  | .gt, .int i, .int j => ret (.bl (decide (j < i)))
  | .ge, .int i, .int j => ret (.bl (decide (j ≤ i)))
  | .is, x, .non => ret (.bl (isNone x))
  | .isn, x, .non => ret (.bl (!isNone x))
  | .inn, .str [c], .str y => ret (.bl (decide (c ∈ y)))
  | .nin, .str [c], .str y => ret (.bl (!decide (c ∈ y)))
  | _, _, _ => fail
/-- what is a list's or a tuple's items -/
def itemsOf (L : Hh) : W → Option (List W)
  | .tup ws => some ws
  | .ref l => match L[l]? with
    | some (.lst ws) => some ws
    | some (.ro ws) => some ws
    | _ => none
  | _ => none
def blOf : W → Option Bool
  | .bl b => some b
  | _ => none
def intOf : W → Option Int
  | .int i => some i
  | _ => none
def txtOf : W → Option Txt
  | .str x => some x
  | _ => none
/-- the order of texts, sorting them -/
def txtLe (x y : Txt) : Bool := !ltCps y x
def insT (x : Txt) : List Txt → List Txt
  | [] => [x]
  | y :: ys => if txtLe x y then x :: y :: ys else y :: insT x ys
def sortT : List Txt → List Txt
  | [] => []
  | x :: xs => insT x (sortT xs)
def insI (x : Int) : List Int → List Int
  | [] => [x]
  | y :: ys => if decide (x ≤ y) then x :: y :: ys else y :: insI x ys
def sortI : List Int → List Int
  | [] => []
  | x :: xs => insI x (sortI xs)
def callB : Bi → List W → M W
  | .len, [.str x] => if lenOk x.length then ret (.int x.length) else fail
  | .len, [w] => gets fun L => match itemsOf L w with
    | some ws => ret (.int ws.length)
    | none => fail
  | .intf, [.int i] => ret (.int i)
  | .intf, [.bl b] => ret (.int (if b then 1 else 0))
  | .allf, [.ref l] => gets fun L => match (itemsOf L (.ref l)).bind fun ws => ws.mapM blOf with
    | some bs => ret (.bl (bs.all id))
    | none => fail
  | .anyf, [.ref l] => gets fun L => match (itemsOf L (.ref l)).bind fun ws => ws.mapM blOf with
    | some bs => ret (.bl (bs.any id))
    | none => fail
  | .listf, [.str x] => if lenOk x.length then alloc (.lst (signs x)) else fail
  | .tuplef, [.str x] => if lenOk x.length then ret (.tup (signs x)) else fail
  | .sortedf, [.str x] => if lenOk x.length then alloc (.lst ((sortT (x.map fun c => [c])).map .str)) else fail
  | .listf, [w] => gets fun L => match itemsOf L w with
    | some ws => alloc (.lst ws)
    | none => fail
  | .tuplef, [w] => gets fun L => match itemsOf L w with
    | some ws => ret (.tup ws)
    | none => fail
  | .sortedf, [.ref l] => gets fun L => match itemsOf L (.ref l) with
    | some ws => (match ws.mapM intOf with
      | some is => alloc (.lst ((sortI is).map .int))
      | none => (match ws.mapM txtOf with
        | some ts => if decide (ts.length < 64) then alloc (.lst ((sortT ts).map .str)) else fail
        | none => fail))
    | none => fail
  | _, _ => fail
/-- sep.join(texts) -/
def joinT (sep : Txt) : List Txt → Txt
  | [] => []
  | [x] => x
  | x :: y :: xs => x ++ (sep ++ joinT sep (y :: xs))
def callM : Bm → W → List W → M W
  | .islower, .str x, [] => ret (.bl (PySem.Txt.islower ⟨x.toArray⟩))
  | .isalpha, .str x, [] => ret (.bl (PySem.Txt.isalpha ⟨x.toArray⟩))
  | .append, .ref l, [w] => gets fun L => match L[l]? with
    | some (.lst ws) => if decide (ws.length < sizeLine) then bnd (put l (.lst (ws ++ [w]))) fun _ => ret .non else fail
    | _ => fail
  | .join, .str sep, [w] => gets fun L => match (itemsOf L w).bind fun ws => ws.mapM txtOf with
    | some ts => if decide ((ts.map List.length).sum + ts.length * sep.length ≤ 16777216) then ret (.str (joinT sep ts)) else fail
    | none => fail
  | _, _, _ => fail
/-- a built-in value's type -/
def typeNm (L : Hh) : W → Option String
  | .non => some "NoneType"
  | .bl _ => some "bool"
  | .int _ => some "int"
  | .str _ => some "str"
  | .tup _ => some "tuple"
  | .ref l => match L[l]? with
    | some (.lst _) => some "list"
    | some (.ro _) => some "list"
    | some (.dct _) => some "dict"
    | _ => none
  | _ => none
/-- a method's receiver -/
def rcvOk (L : Hh) : Bm → W → Bool
  | .append, .ref l => (itemsOf L (.ref l)).isSome
  | .pop, .ref l => (itemsOf L (.ref l)).isSome
  | .append, _ => false
  | .pop, _ => false
  | _, .str _ => true
  | _, _ => false
/-- is the value of the class -/
def isKind (sb : Nat → Nat → Bool) (L : Hh) (w : W) : Cl → Option Bool
  | .ty n => (typeNm L w).map fun a => a == n || (a == "bool" && n == "int")
  | .own c => match w with
    | .ref l => (match L[l]? with
      | some (.ins k _) => some (sb k c)
      | some (.lst _) => some false
      | some (.ro _) => some false
      | some (.dct _) => some false
      | _ => none)
    | .exn _ _ => none
    | .clo _ _ => none
    | .scr _ => none
    | _ => some false
def anyKind (sb : Nat → Nat → Bool) (L : Hh) (w : W) : List Cl → Option Bool
  | [] => some false
  | c :: cs => match isKind sb L w c, anyKind sb L w cs with
    | some a, some b => some (a || b)
    | _, _ => none

def optI (m : M W) : M (Option Int) := bnd m fun w => match w with
  | .int i => ret (some i)
  | _ => fail
/-! ### what is walked -/
inductive Src where
  | seq (l : Nat) | vals (ws : List W) | rng (lo : Int) (n : Nat) | enum (l : Nat) | zipL (a b : Nat) | zipT (xs ys : List W)
/-- the item at a turn: none: no answer; some none: the end -/
def srcAt (L : Hh) (i : Nat) : Src → Option (Option W)
  | .seq l => (itemsOf L (.ref l)).map fun ws => ws[i]?
  | .vals ws => some ws[i]?
  | .rng lo n => some (if i < n then some (.int (lo + i)) else none)
  | .enum l => (itemsOf L (.ref l)).map fun ws => ws[i]?.map fun w => .tup [.int i, w]
  | .zipL a b => match itemsOf L (.ref a), itemsOf L (.ref b) with
    | some xs, some ys => some (match xs[i]?, ys[i]? with
      | some x, some y => some (.tup [x, y])
      | _, _ => none)
    | _, _ => none
  | .zipT xs ys => some (match xs[i]?, ys[i]? with
      | some x, some y => some (.tup [x, y])
      | _, _ => none)
def fuel : Nat := 1099511627776
/-- a comprehension's turns: f gives the item's value, or nothing -/
def loopC (s : Src) (f : W → M (Option W)) : Nat → Nat → List W → M (List W)
  | 0, _, _ => fail
  | n + 1, i, acc => gets fun L => match srcAt L i s with
    | none => fail
    | some none => ret acc
    | some (some w) => bnd (f w) fun r => match r with
      | none => loopC s f n (i + 1) acc
      | some v => if decide (acc.length < sizeLine) then loopC s f n (i + 1) (acc ++ [v]) else fail
def wipeF (ρ : Fr) : List Nat → Fr
  | [] => ρ
  | v :: vs => (wipeF ρ vs).set v none
def getFld (fs : List (Nat × W)) (f : Nat) : Option W := (fs.find? fun p => p.1 == f).map (·.2)
def putFld (f : Nat) (w : W) : List (Nat × W) → List (Nat × W)
  | [] => [(f, w)]
  | (g, x) :: r => if g = f then (g, w) :: r else (g, x) :: putFld f w r
def smallR (i : Int) : Bool := decide (-(2 ^ 62) ≤ i) && decide (i < 2 ^ 62)
def setItem (o i w : W) : M Unit := match o, i with
  | .ref l, .int k => gets fun L => match L[l]? with
    | some (.lst ws) => (match L2.ixN ws.length k with
      | some j => put l (.lst (ws.set j w))
      | none => fail)
    | _ => fail
  | _, _ => fail
def setFld (C : Env) (o w : W) (f : Nat) : M Unit := match o with
  | .ref l => gets fun L => match L[l]? with
    | some (.ins c fs) => if C.cf c f && decide (fs.length < 900) then put l (.ins c (putFld f w fs)) else fail
    | _ => fail
  | _ => fail
def fldOf (C : Env) (o : W) (f : Nat) : M W := match o with
  | .ref l => gets fun L => match L[l]? with
    | some (.ins c fs) => if C.cf c f then (match getFld fs f with
      | some w => ret w
      | none => fail) else fail
    | _ => fail
  | _ => fail
def clsOf (L : Hh) : W → Option Nat
  | .ref l => match L[l]? with
    | some (.ins c _) => some c
    | _ => none
  | _ => none
def methOf (C : Env) (o : W) (m : Nat) (as : List W) : M W := gets fun L => match (clsOf L o).bind fun c => C.mt c m with
  | some t => C.call t (o :: as)
  | none => fail
def propOf (C : Env) (o : W) (m : Nat) : M W := gets fun L => match (clsOf L o).bind fun c => C.pt c m with
  | some t => C.call t [o]
  | none => fail
def makeOf (C : Env) (c : Nat) (as : List W) : M W := match C.ini c with
  | some t => bnd (alloc (.ins c [])) fun o => bnd (C.call t (o :: as)) fun r => match r with
    | .non => ret o
    | _ => fail
  | none => fail
def dedup {α : Type} [DecidableEq α] : List α → List α
  | [] => []
  | x :: xs => if x ∈ dedup xs then dedup xs else x :: dedup xs
/-- sorted(set(x)), len(set(x)) -/
def sortSet : W → M W
  | .str x => if decide (x.length < 4000) then alloc (.lst ((sortT (dedup (x.map fun c => [c]))).map .str)) else fail
  | _ => fail
def lenSet (w : W) : M W := gets fun L => match (itemsOf L w).bind fun ws => ws.mapM intOf with
  | some is => ret (.int (dedup is).length)
  | none => fail

mutual
def evE (C : Env) (ρ : Fr) : Ex → M W
  | .var i => (match ρ[i]? with
    | some (some w) => ret w
    | _ => fail)
  | .kn => ret .non
  | .kb b => ret (.bl b)
  | .ki i => ret (.int i)
  | .ks x => ret (.str x)
  | .gi _ i => ret (.int i)
  | .gs _ x => ret (.str x)
  | .bin op a b => bnd (evE C ρ a) fun x => bnd (evE C ρ b) fun y => binop op x y
  | .neg a => bnd (evE C ρ a) fun x => match x with
    | .int i => ret (.int (-i))
    | _ => fail
  | .cmp op a b => bnd (evE C ρ a) fun x => bnd (evE C ρ b) fun y => cmpop op x y
  | .chn o1 o2 a b c => bnd (evE C ρ a) fun x => bnd (evE C ρ b) fun y => bnd (cmpop o1 x y) fun r => match r with
    | .bl true => bnd (evE C ρ c) fun z => cmpop o2 y z
    | .bl false => ret (.bl false)
    | _ => fail
  | .band xs => evAnd C ρ xs
  | .bor xs => evOr C ρ xs
  | .bnot a => bnd (evE C ρ a) fun x => bnd (truth x) fun b => ret (.bl (!b))
  | .ifx c a b => bnd (evT C ρ c) fun t => if t = true then evE C ρ a else evE C ρ b
  | .sub a i => bnd (evE C ρ a) fun x => bnd (evE C ρ i) fun y => itemAt x y
  | .slc a lo hi => bnd (evE C ρ a) fun x => bnd (evO C ρ lo) fun l => bnd (evO C ρ hi) fun h => sliceOf x l h
  | .lst xs => bnd (evEs C ρ xs) fun ws => if lenOk ws.length then alloc (.lst ws) else fail
  | .tup xs => bnd (evEs C ρ xs) fun ws => if lenOk ws.length then ret (.tup ws) else fail
  | .call t xs ys => bnd (evEs C ρ xs) fun ws => bnd (evEs C ρ ys) fun zs => C.call t (ws ++ zs)
  | .bi b xs => bnd (evEs C ρ xs) fun ws => callB b ws
  | .met m o xs => bnd (evE C ρ o) fun x => gets fun L => if rcvOk L m x then bnd (evEs C ρ xs) fun ws => callM m x ws else fail
  | .lc own t it cs x => bnd (evI C ρ it) fun s => noX (bnd (loopC s (fun w => bnd (asgT C t w (wipeF ρ (own.map (·.2)))) fun ρ1 => bnd (tsAnd C ρ1 cs) fun b => if b = true then bnd (evE C ρ1 x) fun v => ret (some v) else ret none) fuel 0 []) fun ws => alloc (.lst ws))
  | .fld o f => bnd (evE C ρ o) fun x => fldOf C x f
  | .prp o m => bnd (evE C ρ o) fun x => propOf C x m
  | .mcall m o xs ys => bnd (evE C ρ o) fun x => bnd (evEs C ρ xs) fun ws => bnd (evEs C ρ ys) fun zs => methOf C x m (ws ++ zs)
  | .mk c xs ys => bnd (evEs C ρ xs) fun ws => bnd (evEs C ρ ys) fun zs => makeOf C c (ws ++ zs)
  | .isi x c => bnd (evE C ρ x) fun w => gets fun L => match isKind C.sub L w c with
    | some b => ret (.bl b)
    | none => fail
  | .isis x cs => bnd (evE C ρ x) fun w => gets fun L => if cs ≠ [] ∧ cs.length < 64 then match anyKind C.sub L w cs with
    | some b => ret (.bl b)
    | none => fail else fail
  | .srtset x => bnd (evE C ρ x) sortSet
  | .lenset x => bnd (evE C ρ x) lenSet
def evEs (C : Env) (ρ : Fr) : List Ex → M (List W)
  | [] => ret []
  | x :: xs => bnd (evE C ρ x) fun w => bnd (evEs C ρ xs) fun ws => ret (w :: ws)
def evO (C : Env) (ρ : Fr) : Option Ex → M (Option Int)
  | none => ret none
  | some x => optI (evE C ρ x)
def evAnd (C : Env) (ρ : Fr) : List Ex → M W
  | [] => ret (.bl true)
  | x :: xs => bnd (evE C ρ x) fun w => if xs.isEmpty then ret w else match w with
    | .bl true => evAnd C ρ xs
    | .bl false => ret (.bl false)
    | _ => fail
def evOr (C : Env) (ρ : Fr) : List Ex → M W
  | [] => ret (.bl false)
  | x :: xs => bnd (evE C ρ x) fun w => if xs.isEmpty then ret w else match w with
    | .bl true => ret (.bl true)
    | .bl false => evOr C ρ xs
    | _ => fail
def evT (C : Env) (ρ : Fr) : Tx → M Bool
  | .val x => bnd (evE C ρ x) truth
  | .bv x => bnd (evE C ρ x) fun w => match w with
    | .bl b => ret b
    | _ => fail
  | .all ts => tsAnd C ρ ts
  | .any ts => tsOr C ρ ts
  | .nt t => bnd (evT C ρ t) fun b => ret (!b)
def tsAnd (C : Env) (ρ : Fr) : List Tx → M Bool
  | [] => ret true
  | x :: xs => bnd (evT C ρ x) fun b => if b = true then tsAnd C ρ xs else ret false
def tsOr (C : Env) (ρ : Fr) : List Tx → M Bool
  | [] => ret false
  | x :: xs => bnd (evT C ρ x) fun b => if b = true then ret true else tsOr C ρ xs
def evI (C : Env) (ρ : Fr) : It → M Src
  | .e x => bnd (evE C ρ x) fun w => match w with
    | .ref l => gets fun L => (match itemsOf L (.ref l) with
      | some _ => ret (.seq l)
      | none => fail)
    | .tup ws => ret (.vals ws)
    | .str x => ret (.vals (signs x))
    | _ => fail
  | .rng xs => bnd (evEs C ρ xs) fun ws => match ws with
    | [.int n] => if smallR n then ret (.rng 0 n.toNat) else fail
    | [.int a, .int b] => if smallR a && smallR b then ret (.rng a (b - a).toNat) else fail
    | _ => fail
  | .enum x => bnd (evE C ρ x) fun w => match w with
    | .ref l => gets fun L => (match itemsOf L (.ref l) with
      | some _ => ret (.enum l)
      | none => fail)
    | _ => fail
  | .zip x y => bnd (evE C ρ x) fun w => bnd (evE C ρ y) fun v => match w, v with
    | .ref a, .ref b => gets fun L => (match itemsOf L (.ref a), itemsOf L (.ref b) with
      | some _, some _ => ret (.zipL a b)
      | _, _ => fail)
    | .tup xs, .tup ys => ret (.zipT xs ys)
    | _, _ => fail
def asgT (C : Env) : Tgt → W → Fr → M Fr
  | .nm i, w, ρ => ret (ρ.set i (some w))
  | .tup ts, w, ρ => (match w with
    | .tup ws => asgTs C ts ws ρ
    | _ => fail)
  | .sub o i, w, ρ => bnd (evE C ρ o) fun x => bnd (evE C ρ i) fun y => bnd (setItem x y w) fun _ => ret ρ
  | .fld o f, w, ρ => bnd (evE C ρ o) fun x => bnd (setFld C x w f) fun _ => ret ρ
def asgTs (C : Env) : List Tgt → List W → Fr → M Fr
  | [], ws, ρ => if ws.isEmpty then ret ρ else fail
  | t :: ts, ws, ρ => (match ws with
    | w :: ws => bnd (asgT C t w ρ) fun ρ1 => asgTs C ts ws ρ1
    | [] => fail)
end
/-! ### statements -/
inductive Sm where
  | asg (t : Tgt) (x : Ex) | aug (i : Nat) (op : BOp) (x : Ex) | augf (o : Ex) (f : Nat) (op : BOp) (x : Ex)
  | exp (x : Ex) | ifs (c : Tx) (a b : List Sm) | whl (c : Tx) (b : List Sm) | fors (t : Tgt) (it : It) (b : List Sm)
  | rtn (x : Ex) | rtnN | pas | brk | cnt
inductive Fl where | nx | rt (w : W) | bk | ct | ex (e : W)
/-- an expression within a statement: an exception ends the statement -/
def sx {α : Type} (ρ : Fr) (m : M α) (k : α → M (Fl × Fr)) : M (Fl × Fr) := fun L => match m L with
  | .ok a L1 => k a L1
  | .exc e L1 => .ok (.ex e, ρ) L1
  | .bad => .bad
@[simp] theorem wp_sx {α : Type} {ρ : Fr} {m : M α} {k : α → M (Fl × Fr)} {L : Hh} {Q : Fl × Fr → Hh → Prop} {E : W → Hh → Prop} : wp (sx ρ m k) L Q E = wp m L (fun a L1 => wp (k a) L1 Q E) (fun e L1 => Q (.ex e, ρ) L1) := by
  unfold wp sx
  cases m L <;> rfl
def loopW (c : Fr → M Bool) (b : Fr → M (Fl × Fr)) : Nat → Fr → M (Fl × Fr)
  | 0, _ => fail
  | n + 1, ρ => sx ρ (c ρ) fun t => if t = true then bnd (b ρ) fun r => (match r.1 with
      | .nx => loopW c b n r.2
      | .ct => loopW c b n r.2
      | .bk => ret (.nx, r.2)
      | .rt w => ret (.rt w, r.2)
      | .ex e => ret (.ex e, r.2)) else ret (.nx, ρ)
def loopF (s : Src) (g : W → Fr → M Fr) (b : Fr → M (Fl × Fr)) : Nat → Nat → Fr → M (Fl × Fr)
  | 0, _, _ => fail
  | n + 1, i, ρ => gets fun L => match srcAt L i s with
    | none => fail
    | some none => ret (.nx, ρ)
    | some (some w) => sx ρ (g w ρ) fun ρ1 => bnd (b ρ1) fun r => (match r.1 with
      | .nx => loopF s g b n (i + 1) r.2
      | .ct => loopF s g b n (i + 1) r.2
      | .bk => ret (.nx, r.2)
      | .rt w => ret (.rt w, r.2)
      | .ex e => ret (.ex e, r.2))
/-- a op= b -/
def iop : BOp → W → W → M W
  | .add, .int i, .int j => ret (.int (i + j))
  | .add, .str x, .str y => if lenOk (x.length + y.length) then ret (.str (x ++ y)) else fail
  | .sub, .int i, .int j => ret (.int (i - j))
  | _, _, _ => fail
mutual
def exS (C : Env) : Sm → Fr → M (Fl × Fr)
  | .asg t x, ρ => sx ρ (evE C ρ x) fun w => sx ρ (asgT C t w ρ) fun ρ1 => ret (.nx, ρ1)
  | .aug i op x, ρ => (match ρ[i]? with
    | some (some v) => sx ρ (evE C ρ x) fun w => sx ρ (iop op v w) fun z => ret (.nx, ρ.set i (some z))
    | _ => fail)
  | .augf o f op x, ρ => sx ρ (evE C ρ o) fun ov => sx ρ (fldOf C ov f) fun v => sx ρ (evE C ρ x) fun w => sx ρ (iop op v w) fun z => sx ρ (setFld C ov z f) fun _ => ret (.nx, ρ)
  | .exp x, ρ => sx ρ (evE C ρ x) fun _ => ret (.nx, ρ)
  | .ifs c a b, ρ => sx ρ (evT C ρ c) fun t => if t = true then exSs C a ρ else exSs C b ρ
  | .whl c b, ρ => loopW (fun ρ => evT C ρ c) (fun ρ => exSs C b ρ) fuel ρ
  | .fors t it b, ρ => sx ρ (evI C ρ it) fun s => loopF s (fun w ρ => asgT C t w ρ) (fun ρ => exSs C b ρ) fuel 0 ρ
  | .rtn x, ρ => sx ρ (evE C ρ x) fun w => ret (.rt w, ρ)
  | .rtnN, ρ => ret (.rt .non, ρ)
  | .pas, ρ => ret (.nx, ρ)
  | .brk, ρ => ret (.bk, ρ)
  | .cnt, ρ => ret (.ct, ρ)
def exSs (C : Env) : List Sm → Fr → M (Fl × Fr)
  | [], ρ => ret (.nx, ρ)
  | x :: xs, ρ => bnd (exS C x ρ) fun r => match r.1 with
    | .nx => exSs C xs r.2
    | .rt w => ret (.rt w, r.2)
    | .bk => ret (.bk, r.2)
    | .ct => ret (.ct, r.2)
    | .ex e => ret (.ex e, r.2)
end
/-- a def: its slots, its body -/
structure Df where
  slots : Nat
  body : List Sm
/-- what is done with a body's end -/
def endOf : Fl × Fr → M W
  | (.nx, _) => ret .non
  | (.rt w, _) => ret w
  | (.ex e, _) => thr e
  | _ => fail
def runD (C : Env) (f : Df) (as : List W) : M W := if decide (as.length ≤ f.slots) then bnd (exSs C f.body (as.map some ++ List.replicate (f.slots - as.length) none)) endOf else fail
example : evE { call := fun _ _ => fail } [some (.int 5)] (.ifx (.all [.bv (.cmp .lt (.var 0) (.ki 7)), .val (.kb true)]) (.bin .add (.var 0) (.ki 2)) (.ki 0)) [] = .ok (.int 7) [] := rfl
example : runD { call := fun _ _ => fail } ⟨3, [.asg (.nm 1) (.ki 0), .fors (.nm 2) (.rng [.var 0]) [.aug 1 .add (.var 2)], .rtn (.var 1)]⟩ [.int 5] [] = .ok (.int 10) [] := rfl
example : runD { call := fun _ _ => fail } ⟨2, [.rtn (.lc [(Str.empty, 1)] (.nm 1) (.e (.var 0)) [.nt (.bv (.cmp .eq (.var 1) (.ks [98])))] (.bin .add (.var 1) (.ks [120])))]⟩ [.str [97, 98, 99]] [] = .ok (.ref 0) [.lst [.str [97, 120], .str [99, 120]]] := by kernel_rfl

end Dx

set_option maxRecDepth 100000
set_option maxHeartbeats 2000000
/-! Dx2: what the evaluator's values and heaps stand for. -/
namespace Dx
open PySem PySem.Spec PyProof.Rows L2

structure G where
  P : Program
  w : World
  K : PySem.W.Frag
  mg : Str → Option Value
  base : Heap
  CN : List Str
  FN : List Str
  rx : List Addr → Hp → W → Value → Option Addr → Prop

/-- the law's script: it never changes -/
def Scr (K : PySem.W.Frag) (H : Hp) (a : Addr) (xs : List V) : Prop := (∃ o, H a = some (.frz o (.lst xs))) ∨ ∃ (o : Obj) (its : Array Value) (n : Nat), K.lookup a = some o ∧ o.cls = .type "list" ∧ o.dict = none ∧ o.data = .seq its n ∧ its.size ≤ sizeLine ∧ Vals xs its.toList
theorem Scr.sq {K : PySem.W.Frag} {H : Hp} {a : Addr} {xs : List V} (h : Scr K H a xs) : SqL K H a xs := by
  rcases h with ⟨o, h⟩ | h
  · exact .inl (.inr ⟨o, h⟩)
  · exact .inr h
mutual
inductive RelW (K : PySem.W.Frag) (m : List Addr) (H : Hp) : W → V → Prop
  | non : RelW K m H .non .non
  | bl (b : Bool) : RelW K m H (.bl b) (.bl b)
  | int (i : Int) : RelW K m H (.int i) (.int i)
  | str (x : Txt) : RelW K m H (.str x) (.str ⟨x.toArray⟩)
  | tup {a : Addr} {xs : List V} {ws : List W} (h : SqT K H a xs) (hr : RelWs K m H ws xs) : RelW K m H (.tup ws) (.ref a)
  | ref {l : Nat} {a : Addr} (h : m[l]? = some a) : RelW K m H (.ref l) (.ref a)
  | scr {a : Addr} {xs : List V} {ws : List W} (h : Scr K H a xs) (hr : RelWs K m H ws xs) : RelW K m H (.scr ws) (.ref a)
inductive RelWs (K : PySem.W.Frag) (m : List Addr) (H : Hp) : List W → List V → Prop
  | nil : RelWs K m H [] []
  | cons {w : W} {v : V} {ws : List W} {vs : List V} (h : RelW K m H w v) (hr : RelWs K m H ws vs) : RelWs K m H (w :: ws) (v :: vs)
end

def wK : Key → W
  | .inl i => .int i
  | .inr x => .str x.cps.toList
def RelO (g : G) (m : List Addr) (H : Hp) (a : Addr) : O → Prop
  | .lst ws => ∃ xs, H a = some (.lst xs) ∧ RelWs g.K m H ws xs
  | .ro ws => ∃ o xs, H a = some (.frz o (.lst xs)) ∧ RelWs g.K m H ws xs
  | .dct kvs => (∃ qs : List (Key × V), H a = some (.dK qs) ∧ kvs.map (·.1) = qs.map (fun q => wK q.1) ∧ RelWs g.K m H (kvs.map (·.2)) (qs.map (·.2))) ∨
      (∃ qs : List (List Key × V), H a = some (.dT qs) ∧ kvs.map (·.1) = qs.map (fun q => W.tup (q.1.map wK)) ∧ RelWs g.K m H (kvs.map (·.2)) (qs.map (·.2)))
  | .ins c fs => ∃ (dx : Addr) (qs : List (Str × V)), H a = some (.ins (He.ga g.K (g.CN.getD c Str.empty)) dx qs) ∧ qs.map (·.1) = fs.map (fun p => g.FN.getD p.1 Str.empty) ∧ (∀ p ∈ fs, p.1 < g.FN.length) ∧ RelWs g.K m H (fs.map (·.2)) (qs.map (·.2))

/-- what a value's relation leans on -/
structure Ex0 (m : List Addr) (H : Hp) (m' : List Addr) (H' : Hp) : Prop where
  at_ : ∀ (l : Nat) (a : Addr), m[l]? = some a → m'[l]? = some a
  tups : ∀ a xs, H a = some (.tup xs) → H' a = some (.tup xs)
  frzs : ∀ a o u, H a = some (.frz o u) → H' a = some (.frz o u)
/-- what a run leaves: new objects, the written ones; all else stays -/
structure Ext (m : List Addr) (H : Hp) (m' : List Addr) (H' : Hp) : Prop where
  pre : ∃ k, m' = m ++ k ∧ ∀ a ∈ k, H a = none
  tups : ∀ a xs, H a = some (.tup xs) → H' a = some (.tup xs)
  frzs : ∀ a o u, H a = some (.frz o u) → H' a = some (.frz o u)
  out : ∀ a u, H a = some u → a ∉ m → (∀ ps, u ≠ .tbl ps) → H' a = some u
  keep : ∀ a, H' a = none → H a = none
theorem Ext.x0 {m m' : List Addr} {H H' : Hp} (e : Ext m H m' H') : Ex0 m H m' H' := ⟨fun l a h => by
  obtain ⟨k, rfl, _⟩ := e.pre
  obtain ⟨hl, _⟩ := List.getElem?_eq_some_iff.mp h
  rw [List.getElem?_append_left hl]
  exact h, e.tups, e.frzs⟩
theorem Ext.refl (m : List Addr) (H : Hp) : Ext m H m H := ⟨⟨[], by simp, by simp⟩, fun _ _ h => h, fun _ _ _ h => h, fun _ _ h _ _ => h, fun _ h => h⟩
theorem Ext.trans {m m1 m2 : List Addr} {H H1 H2 : Hp} (a : Ext m H m1 H1) (b : Ext m1 H1 m2 H2) : Ext m H m2 H2 := by
  obtain ⟨k, rfl, hk⟩ := a.pre
  obtain ⟨k2, rfl, hk2⟩ := b.pre
  refine ⟨⟨k ++ k2, by simp, fun x hx => ?_⟩, fun x xs h => b.tups x xs (a.tups x xs h), fun x o u h => b.frzs x o u (a.frzs x o u h), fun x u h n nt => ?_, fun x h => a.keep x (b.keep x h)⟩
  · rcases List.mem_append.mp hx with h | h
    · exact hk x h
    · exact a.keep x (hk2 x h)
  · refine b.out x u (a.out x u h n nt) (fun hx => ?_) nt
    rcases List.mem_append.mp hx with q | q
    · exact n q
    · rw [hk x q] at h
      cases h
/-- tracked objects stay, new ones come -/
theorem Ext.same {m : List Addr} {H H' : Hp} (k : ∀ a u, H a = some u → H' a = some u) : Ext m H m H' := ⟨⟨[], by simp, by simp⟩, fun a xs h => k _ _ h, fun a o u h => k _ _ h, fun a u h _ _ => k _ _ h, fun a h => by
  cases e : H a with
  | none => rfl
  | some u => rw [k _ _ e] at h; cases h⟩
theorem Ex0.sqT {K : PySem.W.Frag} {m m' : List Addr} {H H' : Hp} (e : Ex0 m H m' H') {a : Addr} {xs : List V} (h : SqT K H a xs) : SqT K H' a xs := by
  rcases h with (h | ⟨o, h⟩) | h
  · exact .inl (.inl (e.tups _ _ h))
  · exact .inl (.inr ⟨o, e.frzs _ _ _ h⟩)
  · exact .inr h
theorem Ex0.scr {K : PySem.W.Frag} {m m' : List Addr} {H H' : Hp} (e : Ex0 m H m' H') {a : Addr} {xs : List V} (h : Scr K H a xs) : Scr K H' a xs := by
  rcases h with ⟨o, h⟩ | h
  · exact .inl ⟨o, e.frzs _ _ _ h⟩
  · exact .inr h
mutual
theorem RelW.mono0 {K : PySem.W.Frag} {m m' : List Addr} {H H' : Hp} (e : Ex0 m H m' H') : ∀ {w : W} {v : V}, RelW K m H w v → RelW K m' H' w v
  | _, _, .non => .non
  | _, _, .bl b => .bl b
  | _, _, .int i => .int i
  | _, _, .str x => .str x
  | _, _, .tup h hr => .tup (e.sqT h) (RelWs.mono0 e hr)
  | _, _, .ref h => .ref (e.at_ _ _ h)
  | _, _, .scr h hr => .scr (e.scr h) (RelWs.mono0 e hr)
theorem RelWs.mono0 {K : PySem.W.Frag} {m m' : List Addr} {H H' : Hp} (e : Ex0 m H m' H') : ∀ {ws : List W} {vs : List V}, RelWs K m H ws vs → RelWs K m' H' ws vs
  | _, _, .nil => .nil
  | _, _, .cons h hr => .cons (RelW.mono0 e h) (RelWs.mono0 e hr)
end
theorem RelW.mono {K : PySem.W.Frag} {m m' : List Addr} {H H' : Hp} (e : Ext m H m' H') {w : W} {v : V} (h : RelW K m H w v) : RelW K m' H' w v := h.mono0 e.x0
theorem RelWs.mono {K : PySem.W.Frag} {m m' : List Addr} {H H' : Hp} (e : Ext m H m' H') {ws : List W} {vs : List V} (h : RelWs K m H ws vs) : RelWs K m' H' ws vs := h.mono0 e.x0
section
variable {K : PySem.W.Frag} {m : List Addr} {H : Hp}
theorem RelWs.length {ws : List W} {vs : List V} (h : RelWs K m H ws vs) : ws.length = vs.length := by
  induction ws generalizing vs with
  | nil => cases h; rfl
  | cons w ws ih =>
    cases h with
    | cons a b => simp [ih b]
theorem RelWs.append {ws ws' : List W} {vs vs' : List V} (h : RelWs K m H ws vs) (h' : RelWs K m H ws' vs') : RelWs K m H (ws ++ ws') (vs ++ vs') := by
  induction ws generalizing vs with
  | nil => cases h; exact h'
  | cons w ws ih =>
    cases h with
    | cons a b => exact .cons a (ih b)
theorem RelWs.one {w : W} {v : V} (h : RelW K m H w v) : RelWs K m H [w] [v] := .cons h .nil
theorem RelWs.get {ws : List W} {vs : List V} (h : RelWs K m H ws vs) {i : Nat} {w : W} (e : ws[i]? = some w) : ∃ v, vs[i]? = some v ∧ RelW K m H w v := by
  induction ws generalizing vs i with
  | nil => simp at e
  | cons x ws ih =>
    cases h with
    | @cons _ y _ ys a b =>
      cases i with
      | zero => simp at e; subst e; exact ⟨y, rfl, a⟩
      | succ i => exact ih b (by simpa using e)
theorem RelWs.set {ws : List W} {vs : List V} (h : RelWs K m H ws vs) {i : Nat} {w : W} {v : V} (r : RelW K m H w v) : RelWs K m H (ws.set i w) (vs.set i v) := by
  induction ws generalizing vs i with
  | nil => cases h; exact .nil
  | cons x ws ih =>
    cases h with
    | cons a b =>
      cases i with
      | zero => exact .cons r b
      | succ i => exact .cons a (ih b)
theorem RelWs.drop {ws : List W} {vs : List V} (h : RelWs K m H ws vs) (n : Nat) : RelWs K m H (ws.drop n) (vs.drop n) := by
  induction n generalizing ws vs with
  | zero => exact h
  | succ n ih =>
    cases h with
    | nil => exact .nil
    | cons a b => exact ih b
theorem RelWs.take {ws : List W} {vs : List V} (h : RelWs K m H ws vs) (n : Nat) : RelWs K m H (ws.take n) (vs.take n) := by
  induction n generalizing ws vs with
  | zero => exact .nil
  | succ n ih =>
    cases h with
    | nil => exact .nil
    | cons a b => exact .cons a (ih b)
theorem RelWs.isEmpty {ws : List W} {vs : List V} (h : RelWs K m H ws vs) : ws.isEmpty = vs.isEmpty := by cases h <;> rfl
end
theorem RelO.mono {g : G} {m m' : List Addr} {H H' : Hp} {a : Addr} {o : O} (e : Ex0 m H m' H') (k : ∀ u, H a = some u → H' a = some u) (r : RelO g m H a o) : RelO g m' H' a o := by
  cases o with
  | lst ws => obtain ⟨xs, h, q⟩ := r; exact ⟨xs, k _ h, q.mono0 e⟩
  | ro ws => obtain ⟨o, xs, h, q⟩ := r; exact ⟨o, xs, k _ h, q.mono0 e⟩
  | dct kvs =>
    rcases r with ⟨qs, h, q1, q2⟩ | ⟨qs, h, q1, q2⟩
    · exact .inl ⟨qs, k _ h, q1, q2.mono0 e⟩
    · exact .inr ⟨qs, k _ h, q1, q2.mono0 e⟩
  | ins c fs => obtain ⟨dx, qs, h, q1, q3, q2⟩ := r; exact ⟨dx, qs, k _ h, q1, q3, q2.mono0 e⟩
theorem RelO.there {g : G} {m : List Addr} {H : Hp} {a : Addr} {o : O} (r : RelO g m H a o) : ∃ u, H a = some u := by
  cases o with
  | lst ws => obtain ⟨xs, h, q⟩ := r; exact ⟨_, h⟩
  | ro ws => obtain ⟨o, xs, h, q⟩ := r; exact ⟨_, h⟩
  | dct kvs =>
    rcases r with ⟨qs, h, q1, q2⟩ | ⟨qs, h, q1, q2⟩
    · exact ⟨_, h⟩
    · exact ⟨_, h⟩
  | ins c fs => obtain ⟨dx, qs, h, q1, q3, q2⟩ := r; exact ⟨_, h⟩
/-- a logical object that may be written -/
def O.mut : O → Bool
  | .ro _ => false
  | _ => true
theorem RelO.noTup {g : G} {m : List Addr} {H : Hp} {a : Addr} {o : O} (r : RelO g m H a o) (hm : o.mut = true) : (∀ xs, H a ≠ some (.tup xs)) ∧ ∀ ob u, H a ≠ some (.frz ob u) := by
  cases o with
  | lst ws => obtain ⟨xs, h, q⟩ := r; exact ⟨fun _ z => (by rw [h] at z; cases z), fun _ _ z => (by rw [h] at z; cases z)⟩
  | ro ws => cases hm
  | dct kvs =>
    rcases r with ⟨qs, h, q1, q2⟩ | ⟨qs, h, q1, q2⟩
    · exact ⟨fun _ z => (by rw [h] at z; cases z), fun _ _ z => (by rw [h] at z; cases z)⟩
    · exact ⟨fun _ z => (by rw [h] at z; cases z), fun _ _ z => (by rw [h] at z; cases z)⟩
  | ins c fs => obtain ⟨dx, qs, h, q1, q3, q2⟩ := r; exact ⟨fun _ z => (by rw [h] at z; cases z), fun _ _ z => (by rw [h] at z; cases z)⟩

structure Sim (g : G) (m : List Addr) (L : Hh) (H : Hp) : Prop where
  len : m.length = L.length
  nd : m.Nodup
  ob : ∀ (l : Nat) (a : Addr) (o : O), m[l]? = some a → L[l]? = some o → RelO g m H a o
section
variable {g : G} {m : List Addr} {L : Hh} {H : Hp}
theorem Sim.addr (S : Sim g m L H) {l : Nat} {o : O} (h : L[l]? = some o) : ∃ a, m[l]? = some a ∧ RelO g m H a o := by
  obtain ⟨hl, _⟩ := List.getElem?_eq_some_iff.mp h
  have hm : l < m.length := by rw [S.len]; exact hl
  exact ⟨m[l], List.getElem?_eq_getElem hm, S.ob l _ o (List.getElem?_eq_getElem hm) h⟩
theorem Sim.obj (S : Sim g m L H) {l : Nat} {a : Addr} (h : m[l]? = some a) : ∃ o, L[l]? = some o ∧ RelO g m H a o := by
  obtain ⟨hl, _⟩ := List.getElem?_eq_some_iff.mp h
  have hm : l < L.length := by rw [← S.len]; exact hl
  exact ⟨L[l], List.getElem?_eq_getElem hm, S.ob l a _ h (List.getElem?_eq_getElem hm)⟩
theorem Sim.mem (S : Sim g m L H) {a : Addr} (h : a ∈ m) : ∃ u, H a = some u := by
  obtain ⟨l, hl⟩ := List.getElem?_of_mem h
  obtain ⟨o, _, r⟩ := S.obj hl
  exact r.there
/-- what is tracked stays as it was, but for new objects -/
theorem Sim.same {H' : Hp} (S : Sim g m L H) (k : ∀ a u, H a = some u → H' a = some u) : Ext m H m H' ∧ Sim g m L H' := by
  have e : Ext m H m H' := Ext.same k
  exact ⟨e, S.len, S.nd, fun l a o h1 h2 => (S.ob l a o h1 h2).mono e.x0 (k a)⟩
/-- a new tracked object that is no object of the logical heap (a tuple) -/
theorem Sim.free {p : Addr} {u : HO} (S : Sim g m L H) (hp : H p = none) : Ext m H m (upd H p u) ∧ Sim g m L (upd H p u) :=
  S.same fun a v h => by rw [upd_ne (ne_of_none h hp)]; exact h
theorem Sim.notIn {p : Addr} (S : Sim g m L H) (hp : H p = none) : p ∉ m := fun h => by
  obtain ⟨u, hu⟩ := S.mem h
  rw [hp] at hu
  cases hu
/-- a tracked object is taken into the logical heap -/
theorem Sim.adopt {p : Addr} {o : O} (S : Sim g m L H) (hp : p ∉ m) (r : RelO g (m ++ [p]) H p o) : Sim g (m ++ [p]) (L ++ [o]) H := by
  have e : Ex0 m H (m ++ [p]) H := ⟨fun l a h => by
    obtain ⟨hl, _⟩ := List.getElem?_eq_some_iff.mp h
    rw [List.getElem?_append_left hl]
    exact h, fun _ _ h => h, fun _ _ _ h => h⟩
  refine ⟨by simp [S.len], ?_, fun l a o' h1 h2 => ?_⟩
  · refine List.nodup_append.mpr ⟨S.nd, by simp, fun a ha b hb z => ?_⟩
    simp at hb
    subst hb
    subst z
    exact hp ha
  · by_cases hl : l < m.length
    · rw [List.getElem?_append_left hl] at h1
      rw [List.getElem?_append_left (by rw [← S.len]; exact hl)] at h2
      exact (S.ob l a o' h1 h2).mono e fun _ h => h
    · have hl1 : l = m.length := by
        obtain ⟨q, _⟩ := List.getElem?_eq_some_iff.mp h1
        simp at q
        omega
      subst hl1
      rw [List.getElem?_append_right (Nat.le_refl _)] at h1
      rw [List.getElem?_append_right (by rw [S.len]; exact Nat.le_refl _), S.len] at h2
      simp at h1 h2
      subst h1 h2
      exact r
theorem Ext.adopt {m' : List Addr} {H' : Hp} {p : Addr} (e : Ext m H m' H') (hp : H p = none) : Ext m H (m' ++ [p]) H' := by
  obtain ⟨k, rfl, hk⟩ := e.pre
  refine ⟨⟨k ++ [p], by simp, fun a ha => ?_⟩, e.tups, e.frzs, e.out, e.keep⟩
  rcases List.mem_append.mp ha with h | h
  · exact hk a h
  · simp at h
    subst h
    exact hp
/-- a new object -/
theorem Sim.new {p : Addr} {u : HO} {o : O} (S : Sim g m L H) (hp : H p = none) (r : RelO g (m ++ [p]) (upd H p u) p o) : Ext m H (m ++ [p]) (upd H p u) ∧ Sim g (m ++ [p]) (L ++ [o]) (upd H p u) := by
  obtain ⟨e, S1⟩ := S.free (u := u) hp
  exact ⟨e.adopt hp, S1.adopt (S.notIn hp) r⟩
/-- an object that is tracked apart is written (a comprehension's list) -/
theorem Ext.apart {m' : List Addr} {H' : Hp} {p : Addr} {u : HO} (e : Ext m H m' H') (hp : H p = none) : Ext m H m' (upd H' p u) := by
  have ne : ∀ a v, H a = some v → a ≠ p := fun a v h => ne_of_none h hp
  refine ⟨e.pre, fun a xs h => by rw [upd_ne (ne a _ h)]; exact e.tups a xs h, fun a o v h => by rw [upd_ne (ne a _ h)]; exact e.frzs a o v h, fun a v h n nt => by rw [upd_ne (ne a _ h)]; exact e.out a v h n nt, fun a h => ?_⟩
  by_cases ha : a = p
  · subst ha
    exact hp
  · rw [upd_ne ha] at h
    exact e.keep a h
theorem Sim.apart {p : Addr} {xs ys : List V} (S : Sim g m L H) (hp : p ∉ m) (hl : H p = some (.lst xs)) : Sim g m L (upd H p (.lst ys)) ∧ Ex0 m H m (upd H p (.lst ys)) := by
  have e : Ex0 m H m (upd H p (.lst ys)) := ⟨fun _ _ h => h, fun a zs h => by rw [upd_ne (fun z => by rw [z, hl] at h; cases h)]; exact h, fun a o u h => by rw [upd_ne (fun z => by rw [z, hl] at h; cases h)]; exact h⟩
  exact ⟨⟨S.len, S.nd, fun l a o h1 h2 => (S.ob l a o h1 h2).mono e fun u h => by rw [upd_ne (show a ≠ p from fun z => hp (by rw [← z]; exact List.mem_of_getElem? h1))]; exact h⟩, e⟩
/-- an object is written -/
theorem Sim.put {l : Nat} {a : Addr} {o o' : O} {u : HO} (S : Sim g m L H) (hl : m[l]? = some a) (ho : L[l]? = some o) (hm : o.mut = true) (r : Ext m H m (upd H a u) → RelO g m (upd H a u) a o') :
    Ext m H m (upd H a u) ∧ Sim g m (L.set l o') (upd H a u) := by
  have ra := S.ob l a o hl ho
  obtain ⟨n1, n2⟩ := ra.noTup hm
  have am : a ∈ m := List.mem_of_getElem? hl
  have e : Ext m H m (upd H a u) := by
    refine ⟨⟨[], by simp, by simp⟩, fun b xs h => by rw [upd_ne (fun z => n1 xs (by rw [← z]; exact h))]; exact h, fun b ob v h => by rw [upd_ne (fun z => n2 ob v (by rw [← z]; exact h))]; exact h, fun b v h n _ => by rw [upd_ne (show b ≠ a from fun z => n (by rw [z]; exact am))]; exact h, fun b h => ?_⟩
    by_cases hb : b = a
    · subst hb
      rw [upd_same] at h
      cases h
    · rw [upd_ne hb] at h
      exact h
  refine ⟨e, ⟨by simp [S.len], S.nd, fun k b ob h1 h2 => ?_⟩⟩
  by_cases hk : k = l
  · subst hk
    rw [hl] at h1
    cases h1
    rw [List.getElem?_set_self (by obtain ⟨q, _⟩ := List.getElem?_eq_some_iff.mp ho; exact q)] at h2
    cases h2
    exact r e
  · rw [List.getElem?_set_ne (Ne.symm hk)] at h2
    have hb : b ≠ a := fun z => hk (by
      subst z
      obtain ⟨q1, e1⟩ := List.getElem?_eq_some_iff.mp h1
      obtain ⟨q2, e2⟩ := List.getElem?_eq_some_iff.mp hl
      exact (List.getElem_inj S.nd).mp (e1.trans e2.symm))
    exact (S.ob k b ob h1 h2).mono e.x0 fun v h => by rw [upd_ne hb]; exact h
end

/-! ### frames -/
structure RelF (K : PySem.W.Frag) (m : List Addr) (H : Hp) (ρ : Fr) (σ : L2.St) : Prop where
  len : ρ.length = σ.length
  at_ : ∀ (i : Nat) (w : W), ρ[i]? = some (some w) → ∃ v, σ[i]? = some (some v) ∧ RelW K m H w v
theorem RelF.mono0 {K : PySem.W.Frag} {m m' : List Addr} {H H' : Hp} {ρ : Fr} {σ : L2.St} (e : Ex0 m H m' H') (r : RelF K m H ρ σ) : RelF K m' H' ρ σ :=
  ⟨r.len, fun i w h => let ⟨v, h1, h2⟩ := r.at_ i w h; ⟨v, h1, h2.mono0 e⟩⟩
theorem RelF.mono {K : PySem.W.Frag} {m m' : List Addr} {H H' : Hp} {ρ : Fr} {σ : L2.St} (e : Ext m H m' H') (r : RelF K m H ρ σ) : RelF K m' H' ρ σ :=
  ⟨r.len, fun i w h => let ⟨v, h1, h2⟩ := r.at_ i w h; ⟨v, h1, h2.mono e⟩⟩
theorem RelF.set {K : PySem.W.Frag} {m : List Addr} {H : Hp} {ρ : Fr} {σ : L2.St} (r : RelF K m H ρ σ) {i : Nat} {w : W} {v : V} (q : RelW K m H w v) : RelF K m H (ρ.set i (some w)) (σ.set i (some v)) := by
  refine ⟨by simp [r.len], fun j x h => ?_⟩
  by_cases hj : i = j
  · subst hj
    have hi : i < ρ.length := by
      by_cases hi : i < ρ.length
      · exact hi
      · rw [List.getElem?_eq_none (by simpa using hi)] at h; cases h
    rw [List.getElem?_set_self hi] at h
    cases h
    exact ⟨v, List.getElem?_set_self (by rw [← r.len]; exact hi), q⟩
  · rw [List.getElem?_set_ne hj] at h ⊢
    exact r.at_ j x h

/-! ### a run, and what it brings about -/
def run (g : G) (X : L2.St → W → Value → Option Addr → Hp → Prop) (σ : L2.St) {α β : Type} (R : List Addr → Hp → α → β → Prop) (c : M α) (m : List Addr) (H : Hp) (L : Hh) (Q : β → Hp → Prop) : Prop :=
  wp c L (fun a L' => ∀ m' H' b, Ext m H m' H' → Sim g m' L' H' → R m' H' a b → Q b H')
    fun e L' => ∀ m' H' cls d, Ext m H m' H' → Sim g m' L' H' → g.rx m' H' e cls d → X σ e cls d H'
section
variable {g : G} {X : L2.St → W → Value → Option Addr → Hp → Prop} {σ : L2.St} {α β γ δ : Type} {R : List Addr → Hp → α → β → Prop} {R' : List Addr → Hp → γ → δ → Prop} {m m1 : List Addr} {H H1 : Hp} {L : Hh} {Q : β → Hp → Prop}
theorem run.shift {c : M α} (e : Ext m H m1 H1) (h : run g X σ R c m H L Q) : run g X σ R c m1 H1 L Q :=
  wp_mono h (fun _ _ q m' H' b e' s r => q m' H' b (e.trans e') s r) fun _ _ q m' H' cls d e' s r => q m' H' cls d (e.trans e') s r
theorem run.imp {c : M α} {Q' : β → Hp → Prop} (h : run g X σ R c m H L Q) (k : ∀ b H', Q b H' → Q' b H') : run g X σ R c m H L Q' :=
  wp_mono h (fun _ _ q m' H' b e' s r => k _ _ (q m' H' b e' s r)) fun _ _ q => q
theorem run_bnd {c : M γ} {f : γ → M α} (h : run g X σ R (bnd c f) m H L Q) :
    run g X σ R' c m H L (fun d H1 => ∃ m1 L1 a, Ext m H m1 H1 ∧ Sim g m1 L1 H1 ∧ R' m1 H1 a d ∧ run g X σ R (f a) m1 H1 L1 Q) := by
  unfold run at h ⊢
  rw [wp_bnd] at h
  refine wp_mono h (fun a L1 q m1 H1 b e1 s1 r1 => ⟨m1, L1, a, e1, s1, r1, ?_⟩) fun _ _ q => q
  exact wp_mono q (fun _ _ q m' H' b e' s r => q m' H' b (e1.trans e') s r) fun _ _ q m' H' cls d e' s r => q m' H' cls d (e1.trans e') s r
theorem run_ret {a : α} {b : β} (h : run g X σ R (ret a) m H L Q) (s : Sim g m L H) (r : R m H a b) : Q b H := h m H b (Ext.refl m H) s r
theorem run_fail (h : run g X σ R (fail : M α) m H L Q) : False := h
theorem run_if {p : Prop} [Decidable p] {c c' : M α} (h : run g X σ R (if p then c else c') m H L Q) : (p ∧ run g X σ R c m H L Q) ∨ (¬ p ∧ run g X σ R c' m H L Q) := by
  by_cases hp : p
  · rw [if_pos hp] at h; exact .inl ⟨hp, h⟩
  · rw [if_neg hp] at h; exact .inr ⟨hp, h⟩
end
abbrev XW : Type := L2.St → W → Value → Option Addr → Hp → Prop
end Dx

set_option maxRecDepth 100000
set_option maxHeartbeats 2000000
/-! Dx3: the operations by values keep what the evaluator says. -/
namespace Dx
open PySem PySem.Spec PyProof.Rows L2

/-- the tables of a program -/
structure Tab where
  CN : List Str
  FN : List Str
  rx : List Addr → Hp → W → Value → Option Addr → Prop
abbrev Tab.g (T : Tab) (X : Cx) : G := ⟨X.prog, X.w, X.K, X.mg, X.base, T.CN, T.FN, T.rx⟩

abbrev RB : List Addr → Hp → Bool → Bool → Prop := fun _ _ a b => a = b
abbrev RU : List Addr → Hp → Unit → Unit → Prop := fun _ _ _ _ => True
/-- a two-place operation's reading -/
def rO2 (g : G) (Xw : XW) (f : W → W → M W) : R2 := fun x y H Q => ∃ σ m L a b, Sim g m L H ∧ RelW g.K m H a x ∧ RelW g.K m H b y ∧ run g Xw σ (RelW g.K) (f a b) m H L Q
def rO1 (g : G) (Xw : XW) (f : W → M W) : V → Hp → VK → Prop := fun x H Q => ∃ σ m L a, Sim g m L H ∧ RelW g.K m H a x ∧ run g Xw σ (RelW g.K) (f a) m H L Q
def rOs (g : G) (Xw : XW) (f : List W → M W) : List V → Hp → VK → Prop := fun xs H Q => ∃ σ m L as, Sim g m L H ∧ RelWs g.K m H as xs ∧ run g Xw σ (RelW g.K) (f as) m H L Q
def rMs (g : G) (Xw : XW) (f : W → List W → M W) : V → List V → Hp → VK → Prop := fun x xs H Q => ∃ σ m L a as, Sim g m L H ∧ RelW g.K m H a x ∧ RelWs g.K m H as xs ∧ run g Xw σ (RelW g.K) (f a as) m H L Q
def rOT (g : G) (Xw : XW) (f : W → M Bool) : V → Hp → (Bool → Hp → Prop) → Prop := fun x H Q => ∃ σ m L a, Sim g m L H ∧ RelW g.K m H a x ∧ run g Xw σ RB (f a) m H L Q

theorem str_app (x y : Txt) : (⟨x.toArray⟩ : Str) ++ ⟨y.toArray⟩ = ⟨(x ++ y).toArray⟩ := by
  show (⟨x.toArray ++ y.toArray⟩ : Str) = _
  simp
theorem str_len (x : Txt) : (⟨x.toArray⟩ : Str).length = x.length := by show x.toArray.size = _; simp
theorem lenOk_le {n : Nat} (h : lenOk n = true) : n ≤ sizeLine := of_decide_eq_true h

section
variable {T : Tab} {X : Cx} {Xw : XW} {g : G} {m : List Addr} {L : Hh} {H : Hp} {σ : L2.St}
/-- a list's object, by what the logical heap has there -/
theorem Sim.lst (S : Sim g m L H) {l : Nat} {p : Addr} {ws : List W} (h : m[l]? = some p) (e : L[l]? = some (.lst ws)) : ∃ xs, H p = some (.lst xs) ∧ RelWs g.K m H ws xs := S.ob l p _ h e
theorem Sim.seq (S : Sim g m L H) {l : Nat} {p : Addr} {ws : List W} (h : m[l]? = some p) (e : L[l]? = some (.lst ws) ∨ L[l]? = some (.ro ws)) : ∃ xs, SqL g.K H p xs ∧ RelWs g.K m H ws xs := by
  rcases e with e | e
  · obtain ⟨xs, h1, h2⟩ := S.ob l p _ h e
    exact ⟨xs, .inl (.inl h1), h2⟩
  · obtain ⟨o, xs, h1, h2⟩ := S.ob l p _ h e
    exact ⟨xs, .inl (.inr ⟨o, h1⟩), h2⟩
/-- a new list -/
theorem run_new {ws : List W} {xs : List V} {p : Addr} {Q : VK} (h : run g Xw σ (RelW g.K) (alloc (.lst ws)) m H L Q) (S : Sim g m L H) (r : RelWs g.K m H ws xs) (hp : H p = none) : Q (.ref p) (upd H p (.lst xs)) := by
  have e : Ext m H (m ++ [p]) (upd H p (.lst xs)) := (S.free hp).1.adopt hp
  obtain ⟨e1, S1⟩ := S.new (o := .lst ws) (u := .lst xs) hp ⟨xs, upd_same, r.mono e⟩
  refine h _ _ _ e1 S1 (.ref ?_)
  rw [← S.len]
  simp
/-- a new tuple -/
theorem run_tup {ws : List W} {xs : List V} {p : Addr} {Q : VK} (h : run g Xw σ (RelW g.K) (ret (.tup ws)) m H L Q) (S : Sim g m L H) (r : RelWs g.K m H ws xs) (hp : H p = none) : Q (.ref p) (upd H p (.tup xs)) := by
  obtain ⟨e1, S1⟩ := S.free (u := .tup xs) hp
  exact h _ _ _ e1 S1 (.tup (.inl (.inl upd_same)) (r.mono e1))
theorem run_val {w : W} {v : V} {Q : VK} (h : run g Xw σ (RelW g.K) (ret w) m H L Q) (S : Sim g m L H) (r : RelW g.K m H w v) : Q v H := run_ret h S r

theorem op_add_ok : OpR X (binaryOp .Add) (rO2 (T.g X) Xw (binop .add)) := by
  intro pins s σ H x y v u Q I rx ry h
  obtain ⟨σ', m, L, a, b, S, ra, rb, h⟩ := h
  cases a <;> cases b <;> try exact False.elim h
  · cases ra; cases rb
    exact op_add pins s σ H _ _ v u Q I rx ry ⟨_, _, rfl, rfl, run_val h S (.int _)⟩
  · cases ra; cases rb
    rcases run_if h with ⟨c, h⟩ | ⟨_, h⟩
    · refine op_add_str pins s σ H _ _ v u Q I rx ry ⟨_, _, rfl, rfl, ?_, ?_⟩
      · rw [str_len, str_len]; exact lenOk_le c
      · rw [str_app]; exact run_val h S (.str _)
    · exact h.elim
  · cases ra with
    | tup ha ra =>
      cases rb with
      | tup hb rb =>
        rcases run_if h with ⟨c, h⟩ | ⟨_, h⟩
        · have hz := lenOk_le c
          rw [ra.length, rb.length] at hz
          refine op_catA pins s σ H _ _ v u Q I rx ry ⟨_, _, _, _, rfl, rfl, ha, hb, hz, fun e => ?_, fun _ e => ?_, fun _ _ p hp => ?_⟩
          · refine run_val h S (.tup hb ?_)
            subst e
            cases ra
            exact rb
          · refine run_val h S (.tup ha ?_)
            subst e
            cases rb
            rw [List.append_nil]
            exact ra
          · exact run_tup h S (ra.append rb) hp
        · exact h.elim
  · rename_i l1 l2
    cases ra with
    | ref ha =>
      cases rb with
      | ref hb =>
        have h : run (T.g X) Xw σ' (RelW X.K) (match L[l1]?, L[l2]? with
          | some (.lst x), some (.lst y) => if lenOk (x.length + y.length) then alloc (.lst (x ++ y)) else fail
          | _, _ => fail) m H L Q := h
        split at h
        · rename_i x y e1 e2
          rcases run_if h with ⟨c, h⟩ | ⟨_, h⟩
          · obtain ⟨xs, h1, r1⟩ := S.lst ha e1
            obtain ⟨ys, h2, r2⟩ := S.lst hb e2
            have hz := lenOk_le c
            rw [r1.length, r2.length] at hz
            exact op_cat pins s σ H _ _ v u Q I rx ry ⟨_, _, _, _, rfl, rfl, h1, h2, hz, fun p hp => run_new h S (r1.append r2) hp⟩
          · exact h.elim
        · exact h.elim
theorem op_sub_ok : OpR X (binaryOp .Sub) (rO2 (T.g X) Xw (binop .sub)) := by
  intro pins s σ H x y v u Q I rx ry h
  obtain ⟨σ', m, L, a, b, S, ra, rb, h⟩ := h
  cases a <;> cases b <;> try exact False.elim h
  cases ra; cases rb
  exact op_sub pins s σ H _ _ v u Q I rx ry ⟨_, _, rfl, rfl, run_val h S (.int _)⟩
theorem op_mul_ok : OpR X (binaryOp .Mult) (rO2 (T.g X) Xw (binop .mul)) := by
  intro pins s σ H x y v u Q I rx ry h
  obtain ⟨σ', m, L, a, b, S, ra, rb, h⟩ := h
  cases a <;> cases b <;> try exact False.elim h
  cases ra; cases rb
  rcases run_if h with ⟨c, h⟩ | ⟨_, h⟩
  · refine op_mul pins s σ H _ _ v u Q I rx ry ⟨_, _, rfl, rfl, ?_, run_val h S (.int _)⟩
    simp only [Bool.or_eq_true, smallI, Bool.and_eq_true, decide_eq_true_eq] at c
    exact c
  · exact h.elim
theorem op_fdiv_ok : OpR X (binaryOp .FloorDiv) (rO2 (T.g X) Xw (binop .fdiv)) := by
  intro pins s σ H x y v u Q I rx ry h
  obtain ⟨σ', m, L, a, b, S, ra, rb, h⟩ := h
  cases a <;> cases b <;> try exact False.elim h
  cases ra; cases rb
  rcases run_if h with ⟨c, h⟩ | ⟨_, h⟩
  · refine op_fdiv pins s σ H _ _ v u Q I rx ry ⟨_, _, rfl, rfl, ?_, run_val h S (.int _)⟩
    simp only [Bool.and_eq_true, decide_eq_true_eq] at c
    exact c
  · exact h.elim
theorem op_mod_ok : OpR X (binaryOp .Mod) (rO2 (T.g X) Xw (binop .mod)) := by
  intro pins s σ H x y v u Q I rx ry h
  obtain ⟨σ', m, L, a, b, S, ra, rb, h⟩ := h
  cases a <;> cases b <;> try exact False.elim h
  cases ra; cases rb
  rcases run_if h with ⟨c, h⟩ | ⟨_, h⟩
  · exact op_mod pins s σ H _ _ v u Q I rx ry ⟨_, _, rfl, rfl, of_decide_eq_true c, run_val h S (.int _)⟩
  · exact h.elim
theorem op_pow_ok : OpR X (binaryOp .Pow) (rO2 (T.g X) Xw (binop .pow)) := by
  intro pins s σ H x y v u Q I rx ry h
  obtain ⟨σ', m, L, a, b, S, ra, rb, h⟩ := h
  cases a <;> cases b <;> try exact False.elim h
  cases ra; cases rb
  rcases run_if h with ⟨c, h⟩ | ⟨_, h⟩
  · refine op_pow pins s σ H _ _ v u Q I rx ry ⟨_, _, rfl, rfl, ?_, run_val h S (.int _)⟩
    simp only [Bool.and_eq_true, decide_eq_true_eq] at c
    exact ⟨c.1.1, c.1.2, c.2⟩
  · exact h.elim
def bopP : BOp → Operator
  | .add => .Add | .sub => .Sub | .mul => .Mult | .fdiv => .FloorDiv | .mod => .Mod | .pow => .Pow
theorem op_bin_ok (op : BOp) : OpR X (binaryOp (bopP op)) (rO2 (T.g X) Xw (binop op)) := by
  cases op
  · exact op_add_ok
  · exact op_sub_ok
  · exact op_mul_ok
  · exact op_fdiv_ok
  · exact op_mod_ok
  · exact op_pow_ok
end
end Dx

set_option maxRecDepth 100000
set_option maxHeartbeats 2000000
/-! Dx4: comparisons, truth, items, slices. -/
namespace Dx
open PySem PySem.Spec PyProof.Rows L2
section
variable {T : Tab} {X : Cx} {Xw : XW} {g : G} {m : List Addr} {L : Hh} {H : Hp} {σ : L2.St}
/-! ### data -/
theorem mapM_some {α β : Type} {f : α → Option β} : ∀ {xs : List α} {ys : List β}, xs.mapM f = some ys → Paired (fun x y => f x = some y) xs ys
  | [], ys, h => by
    simp at h
    subst h
    exact .nil
  | x :: xs, ys, h => by
    rw [List.mapM_cons] at h
    cases e : f x with
    | none => rw [e] at h; simp at h
    | some y =>
      rw [e] at h
      simp only [Option.bind_eq_bind, Option.bind_some] at h
      cases e2 : xs.mapM f with
      | none => rw [e2] at h; simp at h
      | some zs =>
        rw [e2] at h
        simp at h
        subst h
        exact .cons e (mapM_some e2)
theorem dpAll_of {f : W → Option PyData} (ih : ∀ w v d, RelW g.K m H w v → f w = some d → Dp g.K H v d) : ∀ {ws : List W} {xs : List V} {ds : List PyData}, RelWs g.K m H ws xs → Paired (fun x y => f x = some y) ws ds → DpAll g.K H xs ds
  | _, _, _, .nil, .nil => .nil
  | _, _, _, .cons a b, .cons p q => .cons (ih _ _ _ a p) (dpAll_of ih b q)
theorem asData_ok (S : Sim g m L H) : ∀ (n : Nat) (w : W) (v : V) (d : PyData), RelW g.K m H w v → asData L n w = some d → Dp g.K H v d
  | n, .non, _, d, r, h => by cases r; simp [asData] at h; subst h; exact .non
  | n, .bl b, _, d, r, h => by cases r; simp [asData] at h; subst h; exact .bl b
  | n, .int i, _, d, r, h => by cases r; simp [asData] at h; subst h; exact .int i
  | n, .str x, _, d, r, h => by cases r; simp [asData] at h; subst h; exact .str _
  | 0, .tup ws, _, d, r, h => by simp [asData] at h
  | 0, .ref l, _, d, r, h => by simp [asData] at h
  | n, .exn c fs, _, d, r, h => by cases r
  | n, .clo k cs, _, d, r, h => by cases r
  | n, .scr ws, _, d, r, h => by simp [asData] at h
  | n + 1, .tup ws, _, d, r, h => by
    cases r with
    | tup hs hr =>
      simp only [asData, Option.map_eq_some_iff] at h
      obtain ⟨ds, e, rfl⟩ := h
      exact .tup hs (dpAll_of (asData_ok S n) hr (mapM_some e))
  | n + 1, .ref l, _, d, r, h => by
    cases r with
    | @ref _ a hl =>
      have h : (match L[l]? with
        | some (.lst ws) => (ws.mapM (asData L n)).map PyData.list
        | some (.ro ws) => (ws.mapM (asData L n)).map PyData.list
        | _ => none) = some d := h
      split at h
      · rename_i ws e
        simp only [Option.map_eq_some_iff] at h
        obtain ⟨ds, e2, rfl⟩ := h
        obtain ⟨xs, hs, hr⟩ := S.seq hl (.inl e)
        exact .lst hs (dpAll_of (asData_ok S n) hr (mapM_some e2))
      · rename_i ws e
        simp only [Option.map_eq_some_iff] at h
        obtain ⟨ds, e2, rfl⟩ := h
        obtain ⟨xs, hs, hr⟩ := S.seq hl (.inr e)
        exact .lst hs (dpAll_of (asData_ok S n) hr (mapM_some e2))
      · cases h
theorem run_eq {x y : W} {f : Bool → W} {Q : VK} (h : run g Xw σ (RelW g.K) (bnd (eqop x y) fun b => ret (f b)) m H L Q) (S : Sim g m L H) {vx vy : V} (rx : RelW g.K m H x vx) (ry : RelW g.K m H y vy) :
    ∃ d e, Dp g.K H vx d ∧ Dp g.K H vy e ∧ SeqAt.shaped d = true ∧ SeqAt.shaped e = true ∧ run g Xw σ (RelW g.K) (ret (f (PyData.eqv d e))) m H L Q := by
  have h : run g Xw σ (RelW g.K) (bnd (match asData L 64 x, asData L 64 y with
    | some d, some e => if SeqAt.shaped d && SeqAt.shaped e then ret (PyData.eqv d e) else fail
    | _, _ => fail) fun b => ret (f b)) m H L Q := h
  split at h
  · rename_i d e e1 e2
    have h2 := run_bnd (R' := RB) h
    rcases run_if h2 with ⟨c, h3⟩ | ⟨_, h3⟩
    · simp only [Bool.and_eq_true] at c
      refine ⟨d, e, asData_ok S _ _ _ _ rx e1, asData_ok S _ _ _ _ ry e2, c.1, c.2, ?_⟩
      rw [if_pos (by simp [c.1, c.2])] at h
      unfold run at h ⊢
      rw [wp_bnd] at h
      exact h
    · exact h3.elim
  · exact (run_bnd (R' := RB) h).elim
theorem hu64 {d : Nat} {A : Around} (r : Room d A) : A.units + 64 < cLine := r.units
def copP : COp → CmpOp
  | .eq => .Eq | .ne => .NotEq | .lt => .Lt | .le => .LtE | .gt => .Gt | .ge => .GtE | .is => .Is | .isn => .IsNot | .inn => .In | .nin => .NotIn
theorem isNone_ok {K : PySem.W.Frag} {w : W} {v : V} (r : RelW K m H w v) : decide (v = .non) = isNone w := by
  cases r <;> simp [isNone]
theorem op_cmp_ok (hu : X.A.units + 64 < cLine) (op : COp) : OpR X (compareOp (copP op)) (rO2 (T.g X) Xw (cmpop op)) := by
  intro pins s σ H x y v u Q I rx ry h
  obtain ⟨σ', m, L, a, b, S, ra, rb, h⟩ := h
  cases op
  · obtain ⟨d, e, h1, h2, h3, h4, h5⟩ := run_eq (f := W.bl) h S ra rb
    exact op_eqD hu pins s σ H _ _ v u Q I rx ry ⟨d, e, h1, h2, h3, h4, run_val h5 S (.bl _)⟩
  · obtain ⟨d, e, h1, h2, h3, h4, h5⟩ := run_eq (f := fun b => W.bl (!b)) h S ra rb
    exact op_neD hu pins s σ H _ _ v u Q I rx ry ⟨d, e, h1, h2, h3, h4, run_val h5 S (.bl _)⟩
  · cases a <;> cases b <;> try exact False.elim h
    cases ra; cases rb
    exact op_lt pins s σ H _ _ v u Q I rx ry ⟨_, _, rfl, rfl, run_val h S (.bl _)⟩
  · cases a <;> cases b <;> try exact False.elim h
    cases ra; cases rb
    exact op_le pins s σ H _ _ v u Q I rx ry ⟨_, _, rfl, rfl, run_val h S (.bl _)⟩
  · cases a <;> cases b <;> try exact False.elim h
    cases ra; cases rb
    exact op_gt pins s σ H _ _ v u Q I rx ry ⟨_, _, rfl, rfl, run_val h S (.bl _)⟩
  · cases a <;> cases b <;> try exact False.elim h
    cases ra; cases rb
    exact op_ge pins s σ H _ _ v u Q I rx ry ⟨_, _, rfl, rfl, run_val h S (.bl _)⟩
  · cases b <;> try exact False.elim h
    cases rb
    have e := isNone_ok ra
    exact op_isN pins s σ H _ _ v u Q I rx ry ⟨rfl, by rw [e]; exact run_val h S (.bl _)⟩
  · cases b <;> try exact False.elim h
    cases rb
    have e := isNone_ok ra
    exact op_notN pins s σ H _ _ v u Q I rx ry ⟨rfl, by rw [e]; exact run_val h S (.bl _)⟩
  · cases a with
    | str z =>
      cases z with
      | nil => cases b <;> exact False.elim h
      | cons c z =>
        cases z with
        | cons c2 z => cases b <;> exact False.elim h
        | nil =>
          cases b <;> try exact False.elim h
          cases ra; cases rb
          exact op_in_sign pins s σ H _ _ v u Q I rx ry ⟨_, _, rfl, rfl, run_val h S (.bl _)⟩
    | _ => cases b <;> exact False.elim h
  · cases a with
    | str z =>
      cases z with
      | nil => cases b <;> exact False.elim h
      | cons c z =>
        cases z with
        | cons c2 z => cases b <;> exact False.elim h
        | nil =>
          cases b <;> try exact False.elim h
          cases ra; cases rb
          exact op_notIn_sign pins s σ H _ _ v u Q I rx ry ⟨_, _, rfl, rfl, run_val h S (.bl _)⟩
    | _ => cases b <;> exact False.elim h
/-! ### truth -/
theorem tru_ok' : TruR X (rOT (T.g X) Xw truth) := by
  intro pins s σ H x v Q I rx h
  obtain ⟨σ', m, L, a, S, ra, h⟩ := h
  have fin : ∀ {k : Bool}, run (T.g X) Xw σ' RB (ret k) m H L Q → TruV X.K x H k → wpAny (model X.prog X.w) X.A (truthy v) (TP X pins σ Q) X.xe s := fun {k} h t =>
    tru_ok pins s σ H x v Q I rx ⟨k, t, run_ret (R := RB) h S rfl⟩
  cases a with
  | non => cases ra; exact fin h rfl
  | bl b => cases ra; exact fin h rfl
  | int i => cases ra; exact fin h rfl
  | str z =>
    cases ra
    rcases run_if h with ⟨c, h⟩ | ⟨_, h⟩
    · refine fin h ⟨by rw [str_len]; exact lenOk_le c, ?_⟩
      rw [str_len]
      cases z <;> simp
      omega
    · exact h.elim
  | tup ws =>
    cases ra with
    | tup hs hr => exact fin h (.inr (.inl ⟨_, hs, by rw [hr.isEmpty]⟩))
  | ref l =>
    cases ra with
    | ref hl =>
      have h : run (T.g X) Xw σ' RB (match L[l]? with
        | some (.lst ws) => ret (!ws.isEmpty)
        | some (.ro ws) => ret (!ws.isEmpty)
        | _ => fail) m H L Q := h
      split at h
      · rename_i ws e
        obtain ⟨xs, hs, hr⟩ := S.seq hl (.inl e)
        exact fin h (.inl ⟨_, hs, by rw [hr.isEmpty]⟩)
      · rename_i ws e
        obtain ⟨xs, hs, hr⟩ := S.seq hl (.inr e)
        exact fin h (.inl ⟨_, hs, by rw [hr.isEmpty]⟩)
      · exact h.elim
  | exn c fs => exact False.elim h
  | clo k cs => exact False.elim h
  | scr ws => exact False.elim h
/-! ### items and slices -/
theorem atI_rel {K : PySem.W.Frag} {ws : List W} {xs : List V} (r : RelWs K m H ws xs) {i : Int} {w : W} (h : atI ws i = some w) : ∃ v, atI xs i = some v ∧ RelW K m H w v := by
  unfold atI at h ⊢
  rw [r.length] at h
  cases e : ixN xs.length i with
  | none => rw [e] at h; simp at h
  | some j =>
    rw [e] at h
    simp only [Option.bind_some] at h ⊢
    exact r.get h
theorem ix_ok : IxR X (rO2 (T.g X) Xw itemAt) := by
  intro value slice pins s σ H x y v u Q I rx ry h hsl
  obtain ⟨σ', m, L, a, b, S, ra, rb, h⟩ := h
  cases a <;> cases b <;> try exact False.elim h
  · rename_i z i
    cases ra; cases rb
    rcases run_if h with ⟨c, h⟩ | ⟨_, h⟩
    · split at h
      · rename_i c0 e
        exact ix_str value slice pins s σ H _ _ v u Q I rx ry ⟨_, _, c0, rfl, rfl, by rw [str_len]; exact lenOk_le c, e, run_val h S (.str [c0])⟩ hsl
      · exact h.elim
    · exact h.elim
  · rename_i ws i
    cases rb
    cases ra with
    | tup hs hr =>
      have h : run (T.g X) Xw σ' (RelW X.K) (match atI ws i with | some w => ret w | none => fail) m H L Q := h
      split at h
      · rename_i w e
        obtain ⟨vv, e2, r2⟩ := atI_rel hr e
        exact ix_tup value slice pins s σ H _ _ v u Q I rx ry ⟨_, _, _, vv, rfl, rfl, hs, e2, run_val h S r2⟩ hsl
      · exact h.elim
  · rename_i l i
    cases rb
    cases ra with
    | ref hl =>
      have key : ∀ ws, (L[l]? = some (.lst ws) ∨ L[l]? = some (.ro ws)) → run (T.g X) Xw σ' (RelW X.K) (match atI ws i with | some w => ret w | none => fail) m H L Q → wpAny (model X.prog X.w) X.A (subscriptTail value slice v u) (EP X pins σ Q) X.xe s := fun ws hw h => by
        obtain ⟨xs, hs, hr⟩ := S.seq hl hw
        split at h
        · rename_i w e
          obtain ⟨vv, e2, r2⟩ := atI_rel hr e
          exact ix_list value slice pins s σ H _ _ v u Q I rx ry ⟨_, _, _, vv, rfl, rfl, hs, e2, run_val h S r2⟩ hsl
        · exact h.elim
      have h : run (T.g X) Xw σ' (RelW X.K) (match L[l]? with
        | some (.lst ws) => (match atI ws i with | some w => ret w | none => fail)
        | some (.ro ws) => (match atI ws i with | some w => ret w | none => fail)
        | _ => fail) m H L Q := h
      split at h
      · rename_i ws e; exact key ws (.inl e) h
      · rename_i ws e; exact key ws (.inr e) h
      · exact h.elim
theorem cutL_rel {K : PySem.W.Frag} {ws : List W} {xs : List V} (r : RelWs K m H ws xs) (lo hi : Option Int) : RelWs K m H (cutL ws lo hi) (cutV xs lo hi) := by
  unfold cutL cutV cutI
  rw [r.length]
  exact (r.drop _).take _
theorem sl_ok {f : W → Option Int → Option Int → M W} (hf : f = sliceOf) : SlR X (fun x lo hi H Q => ∃ σ m L a, Sim (T.g X) m L H ∧ RelW X.K m H a x ∧ run (T.g X) Xw σ (RelW X.K) (f a lo hi) m H L Q) := by
  subst hf
  intro pins s σ H x v vl vu lo hi sl Q I rx hs pl pu h
  obtain ⟨σ', m, L, a, S, ra, h⟩ := h
  cases a with
  | str z =>
    cases ra
    rcases run_if h with ⟨c, h⟩ | ⟨_, h⟩
    · have e : cutS (⟨z.toArray⟩ : Str) lo hi = ⟨(cutL z lo hi).toArray⟩ := by
        unfold cutS cutL cutI
        simp [Str.length]
      exact sl_str pins s σ H _ v vl vu lo hi sl Q I rx hs pl pu ⟨_, rfl, by rw [str_len]; exact lenOk_le c, by rw [e]; exact run_val h S (.str _)⟩
    · exact h.elim
  | tup ws =>
    cases ra with
    | tup ht hr => exact sl_tupA pins s σ H _ v vl vu lo hi sl Q I rx hs pl pu ⟨_, _, rfl, ht, fun e => run_val h S (.tup ht (by
        have z := cutL_rel hr lo hi
        have e2 : ∀ xs : List V, HT.sIx xs.length 0 lo = 0 ∧ HT.sIx xs.length xs.length hi = xs.length → cutV xs lo hi = xs := fun xs q => by
          unfold cutV
          rw [q.1, q.2]
          simp
        rw [e2 _ e] at z
        exact z)), fun _ p hp => run_tup h S (cutL_rel hr lo hi) hp⟩
  | scr ws =>
    cases ra with
    | scr hs hr => exact sl_list pins s σ H _ v vl vu lo hi sl Q I rx (by assumption) pl pu ⟨_, _, rfl, hs.sq, fun p hp => run_new h S (cutL_rel hr lo hi) hp⟩
  | ref l =>
    cases ra with
    | ref hl =>
      have key : ∀ ws, (L[l]? = some (.lst ws) ∨ L[l]? = some (.ro ws)) → run (T.g X) Xw σ' (RelW X.K) (alloc (.lst (cutL ws lo hi))) m H L Q → ∃ T id, typeLookup (.type T) "__getitem__" = pure (some (.builtin id)) ∧ s.TypeIs v T ∧ wpAny (model X.prog X.w) X.A (getItem v (.ref sl)) (EP X pins σ Q) X.xe s := fun ws hw h => by
        obtain ⟨xs, hs', hr⟩ := S.seq hl hw
        exact sl_list pins s σ H _ v vl vu lo hi sl Q I rx hs pl pu ⟨_, _, rfl, hs', fun p hp => run_new h S (cutL_rel hr lo hi) hp⟩
      have h : run (T.g X) Xw σ' (RelW X.K) (match L[l]? with
        | some (.lst ws) => alloc (.lst (cutL ws lo hi))
        | some (.ro ws) => alloc (.lst (cutL ws lo hi))
        | _ => fail) m H L Q := h
      split at h
      · rename_i ws e; exact key ws (.inl e) h
      · rename_i ws e; exact key ws (.inr e) h
      · exact h.elim
  | _ => exact False.elim h
end
end Dx

set_option maxRecDepth 100000
set_option maxHeartbeats 2000000
/-! Dx5: expressions: the checker of a text's expression against the small one, and that the run is as the evaluator says. -/
namespace Dx
open PySem PySem.Spec PyProof.Rows L2

def ofW (W : WX) : XW := fun σ _ cls d H => W cls d σ H
def tM {α β : Type} (g : G) (W : WX) (R : List Addr → Hp → α → β → Prop) (f : Fr → M α) (σ : L2.St) (H : Hp) (Q : β → Hp → Prop) : Prop :=
  ∃ m ρ L, Sim g m L H ∧ RelF g.K m H ρ σ ∧ run g (ofW W) σ R (f ρ) m H L Q
section
variable {g : G} {W : WX} {α β γ δ : Type} {R : List Addr → Hp → α → β → Prop} {R' : List Addr → Hp → γ → δ → Prop} {σ : L2.St} {H : Hp} {Q Q' : β → Hp → Prop}
theorem tM.imp {f : Fr → M α} (h : tM g W R f σ H Q) (k : ∀ b H', Q b H' → Q' b H') : tM g W R f σ H Q' :=
  let ⟨m, ρ, L, S, F, r⟩ := h
  ⟨m, ρ, L, S, F, r.imp k⟩
theorem tM_bnd {a : Fr → M γ} {f : Fr → γ → M α} (h : tM g W R (fun ρ => bnd (a ρ) (f ρ)) σ H Q) :
    tM g W R' a σ H (fun d H1 => ∃ m1 ρ L1 x, Sim g m1 L1 H1 ∧ RelF g.K m1 H1 ρ σ ∧ R' m1 H1 x d ∧ run g (ofW W) σ R (f ρ x) m1 H1 L1 Q) :=
  let ⟨m, ρ, L, S, F, r⟩ := h
  ⟨m, ρ, L, S, F, (run_bnd r).imp fun d H1 ⟨m1, L1, x, e, S1, r1, q⟩ => ⟨m1, ρ, L1, x, S1, F.mono e, r1, q⟩⟩
end
abbrev tE (T : Tab) (C : Env) (W : WX) (X : Cx) (x : Ex) : TE := tM (T.g X) W (RelW X.K) fun ρ => evE C ρ x
abbrev tT (T : Tab) (C : Env) (W : WX) (X : Cx) (x : Tx) : TT := tM (T.g X) W RB fun ρ => evT C ρ x
abbrev tA (T : Tab) (C : Env) (W : WX) (X : Cx) (xs : List Ex) : TA := tM (T.g X) W (RelWs X.K) fun ρ => evEs C ρ xs
theorem PE_imp {X : Cx} {e : Expr} {t t' : TE} (h : PE X e t) (k : ∀ σ H Q, t' σ H Q → t σ H Q) : PE X e t' := ⟨fun pins s σ H Q I q => h.run pins s σ H Q I (k σ H Q q)⟩
theorem PT_imp {X : Cx} {e : Expr} {t t' : TT} (h : PT X e t) (k : ∀ σ H Q, t' σ H Q → t σ H Q) : PT X e t' := ⟨fun pins s σ H Q I q => h.run pins s σ H Q I (k σ H Q q)⟩
theorem PW_imp {X : Cx} {e : Expr} {t t' : TT} (h : PW X e t) (k : ∀ σ H Q, t' σ H Q → t σ H Q) : PW X e t' := ⟨fun wh pins s σ H Q I q => h.run wh pins s σ H Q I (k σ H Q q)⟩
theorem PA_imp {X : Cx} {e : List Expr} {t t' : TA} (h : PA X e t) (k : ∀ σ H Q, t' σ H Q → t σ H Q) : PA X e t' := ⟨fun pos pins s σ H Q I q => h.run pos pins s σ H Q I (k σ H Q q)⟩

/-! ### the program's tables -/
/-- a call's target: the global name, how many written arguments, the keywords' names -/
structure Tg where
  name : Str
  npos : Nat
  kws : List Str
structure Pg where
  gi : List (Str × Int)
  gs : List (Str × Txt)
  free : List Str
  tg : List Tg
structure PgOk (p : Pg) (mg : Str → Option Value) : Prop where
  gi : ∀ q ∈ p.gi, ∃ t, mg q.1 = some (.int q.2 t)
  gs : ∀ q ∈ p.gs, ∃ t, mg q.1 = some (.str ⟨q.2.toArray⟩ t)
  free : ∀ x ∈ p.free, mg x = none
/-- the names of a def, its scope -/
structure Dc where
  N : List Str
  sc : Scope
  asn : List Str
def visB (sc : Scope) (y : Str) : Bool := match sc.names.lookup y with
  | some .local => true
  | some .cell => true
  | some .free => true
  | _ => false
def locB (sc : Scope) (y : Str) : Bool := match sc.names.lookup y with
  | some .local => true
  | some .cell => true
  | _ => false
def glB (sc : Scope) (y : Str) : Bool := match sc.names.lookup y with
  | some .globalImplicit => y != ("__debug__" : Str)
  | _ => false
def bltB (p : Pg) (sc : Scope) (y : Str) (n : Str) : Bool := decide (y = n) && glB sc y && p.free.contains y && y != ("__name__" : Str)

def biName : Bi → Str
  | .sumf => "sum" | .boolf => "bool"
  | .len => "len" | .absf => "abs" | .maxf => "max" | .minf => "min" | .intf => "int" | .allf => "all" | .anyf => "any" | .sortedf => "sorted" | .listf => "list" | .tuplef => "tuple" | .strf => "str" | .reprf => "repr"
def bmName : Bm → Str
  | .index => "index"
  | .join => "join" | .append => "append" | .pop => "pop" | .find => "find" | .islower => "islower" | .isalpha => "isalpha" | .startswith => "startswith" | .endswith => "endswith" | .split => "split"

def bmOk : Bm → Bool
  | .join => true | .append => true | .islower => true | .isalpha => true
  | _ => false
/-- no call of super -/
def noSup : Expr → Bool
  | .Call (.Name _ _) [] [] _ => false
  | _ => true

mutual
def tgIx : Tgt → List Nat
  | .nm i => [i]
  | .tup ts => tgIxs ts
  | .sub _ _ => []
  | .fld _ _ => []
def tgIxs : List Tgt → List Nat
  | [] => []
  | t :: ts => tgIx t ++ tgIxs ts
end
mutual
def tgPl : Tgt → Bool
  | .nm _ => true
  | .tup ts => tgPls ts
  | .sub _ _ => false
  | .fld _ _ => false
def tgPls : List Tgt → Bool
  | [] => true
  | t :: ts => tgPl t && tgPls ts
end
def tgOwn (own : List Nat) (t : Tgt) : Bool := tgPl t && (tgIx t).all own.contains
def tyNames : List String := ["int", "str", "bool", "list", "tuple", "dict"]
def chkCls (p : Pg) (c : Dc) : List Cl → List Expr → Bool
  | [], es => es.isEmpty
  | .ty s :: cs, es => (match es with
    | .Name n _ :: es => bltB p c.sc n (Str.ofString s) && tyNames.contains s && chkCls p c cs es
    | _ => false)
  | .own _ :: _, _ => false
mutual
def chkE (p : Pg) (c : Dc) : Ex → Expr → Bool
  | .var i, e => (match e with
    | .Name y _ => visB c.sc y && decide (c.N[i]? = some y) && y != ("__debug__" : Str) && y != ("__classdict__" : Str)
    | _ => false)
  | .kn, e => (match e with
    | .Constant .none _ _ => true
    | _ => false)
  | .kb b, e => (match e with
    | .Constant (.bool d) _ _ => b == d
    | _ => false)
  | .ki i, e => (match e with
    | .Constant (.int d) _ _ => decide (i = d)
    | _ => false)
  | .ks x, e => (match e with
    | .Constant (.str d) _ _ => decide (d = ⟨x.toArray⟩)
    | _ => false)
  | .gi n i, e => (match e with
    | .Name y _ => decide (y = n) && glB c.sc y && p.gi.contains (y, i)
    | _ => false)
  | .gs n x, e => (match e with
    | .Name y _ => decide (y = n) && glB c.sc y && p.gs.contains (y, x)
    | _ => false)
  | .bin op a b, e => (match e with
    | .BinOp l o r _ => decide (o = bopP op) && chkE p c a l && chkE p c b r
    | _ => false)
  | .neg a, e => (match e with
    | .UnaryOp .USub l _ => chkE p c a l
    | _ => false)
  | .cmp op a b, e => (match e with
    | .Compare l [o] [r] _ => decide (o = copP op) && chkE p c a l && chkE p c b r
    | _ => false)
  | .chn o1 o2 a b d, e => (match e with
    | .Compare l [p1, p2] [r1, r2] _ => decide (p1 = copP o1) && decide (p2 = copP o2) && chkE p c a l && chkE p c b r1 && chkE p c d r2
    | _ => false)
  | .band xs, e => (match e with
    | .BoolOp .And es _ => chkEs p c xs es && !es.isEmpty
    | _ => false)
  | .bor xs, e => (match e with
    | .BoolOp .Or es _ => chkEs p c xs es && !es.isEmpty
    | _ => false)
  | .bnot a, e => (match e with
    | .UnaryOp .Not l _ => chkE p c a l
    | _ => false)
  | .ifx t a b, e => (match e with
    | .IfExp q l r _ => chkT p c t q && chkE p c a l && chkE p c b r
    | _ => false)
  | .sub a i, e => (match e with
    | .Subscript l r _ => chkE p c a l && chkE p c i r
    | _ => false)
  | .slc a lo hi, e => (match e with
    | .Subscript l (.Slice x y none _) _ => chkE p c a l && chkO p c lo x && chkO p c hi y
    | _ => false)
  | .lst xs, e => (match e with
    | .List es _ => chkEs p c xs es
    | _ => false)
  | .tup xs, e => (match e with
    | .Tuple es _ _ => chkEs p c xs es
    | _ => false)
  | .call t xs ys, e => (match e with
    | .Call (.Name y _) es ks _ => (match p.tg[t]? with
      | some g => decide (y = g.name) && glB c.sc y && es.length == g.npos && decide (ks.map (·.arg) = g.kws.map some) && chkEs p c xs es && chkEs p c ys (ks.map (·.value))
      | none => false)
    | _ => false)
  | .bi b xs, e => (match e with
    | .Call (.Name y _) es [] _ => bltB p c.sc y (biName b) && !es.isEmpty && chkEs p c xs es
    | _ => false)
  | .met m o xs, e => (match e with
    | .Call (.Attribute l n apos) es [] cpos => decide (n = bmName m) && bmOk m && noSup l && (apos.endLine == cpos.line) && decide (es.length < 20) && chkE p c o l && chkEs p c xs es
    | _ => false)
  | .lc own t it cs x, e => (match e with
    | .ListComp elt [⟨tg, iter, ifs, a⟩] scope _ => decide (a = 0) && blkC c.N c.sc scope own && (own.all fun q => match scope.names.lookup q.1 with
        | some .local => true
        | some .cell => true
        | _ => false) && tgOwn (own.map (·.2)) t && chkI p c it tg iter && chkG p ⟨c.N, relS scope c.sc, own.map (·.1)⟩ t tg && chkTs p ⟨c.N, relS scope c.sc, own.map (·.1)⟩ cs ifs && decide (ifs.length ≤ 1) && chkE p ⟨c.N, relS scope c.sc, own.map (·.1)⟩ x elt
    | _ => false)
  | .fld o f, e => false
  | .prp o m, e => false
  | .mcall m o xs ys, e => false
  | .mk c xs ys, e => false
  | .isi x cl, e => (match e with
    | .Call (.Name y _) [l, .Name n _] [] _ => bltB p c.sc y "isinstance" && chkE p c x l && (match cl with
      | .ty s => bltB p c.sc n (Str.ofString s) && tyNames.contains s
      | .own _ => false)
    | _ => false)
  | .isis x cs, e => (match e with
    | .Call (.Name y _) [l, .Tuple es _ _] [] _ => bltB p c.sc y "isinstance" && chkE p c x l && chkCls p c cs es
    | _ => false)
  | .srtset x, e => (match e with
    | .Call (.Name y _) [.Call (.Name z _) [l] [] _] [] _ => bltB p c.sc y "sorted" && bltB p c.sc z "set" && chkE p c x l
    | _ => false)
  | .lenset x, e => false
def chkEs (p : Pg) (c : Dc) : List Ex → List Expr → Bool
  | [], es => es.isEmpty
  | x :: xs, es => (match es with
    | e :: es => chkE p c x e && chkEs p c xs es
    | [] => false)
def chkO (p : Pg) (c : Dc) : Option Ex → Option Expr → Bool
  | none, e => e.isNone
  | some x, e => (match e with
    | some e => chkE p c x e
    | none => false)
def chkT (p : Pg) (c : Dc) : Tx → Expr → Bool
  | .val x, e => (match e with
    | .BoolOp .. => false
    | .IfExp .. => false
    | .Compare .. => false
    | .UnaryOp .Not _ _ => false
    | e => chkE p c x e)
  | .bv x, e => (match e with
    | .Compare .. => chkE p c x e
    | _ => false)
  | .all ts, e => (match e with
    | .BoolOp .And es _ => chkTs p c ts es && !es.isEmpty
    | _ => false)
  | .any ts, e => (match e with
    | .BoolOp .Or es _ => chkTs p c ts es && !es.isEmpty
    | _ => false)
  | .nt t, e => (match e with
    | .UnaryOp .Not l _ => chkT p c t l
    | _ => false)
def chkTs (p : Pg) (c : Dc) : List Tx → List Expr → Bool
  | [], es => es.isEmpty
  | x :: xs, es => (match es with
    | e :: es => chkT p c x e && chkTs p c xs es
    | [] => false)
def chkI (p : Pg) (c : Dc) : It → Expr → Expr → Bool
  | .e x, _, e => chkE p c x e
  | .rng xs, _, e => (match e with
    | .Call (.Name y _) es [] _ => bltB p c.sc y "range" && chkEs p c xs es && (es.length == 1 || es.length == 2)
    | _ => false)
  | .enum x, t, e => (match t, e with
    | .Tuple _ _ _, .Call (.Name y _) [l] [] _ => bltB p c.sc y "enumerate" && chkE p c x l
    | _, _ => false)
  | .zip x y, t, e => (match t, e with
    | .Tuple _ _ _, .Call (.Name n _) [l, r] [] _ => bltB p c.sc n "zip" && chkE p c x l && chkE p c y r
    | _, _ => false)
def chkG (p : Pg) (c : Dc) : Tgt → Expr → Bool
  | .nm i, e => (match e with
    | .Name y _ => decide (c.N[i]? = some y) && locB c.sc y && c.asn.contains y
    | _ => false)
  | .tup ts, e => (match e with
    | .Tuple es _ _ => tgPls ts && chkGs p c ts es
    | _ => false)
  | .sub o i, e => (match e with
    | .Subscript l r _ => chkE p c o l && chkE p c i r
    | _ => false)
  | .fld o f, e => false
def chkGs (p : Pg) (c : Dc) : List Tgt → List Expr → Bool
  | [], es => es.isEmpty
  | x :: xs, es => (match es with
    | e :: es => chkG p c x e && chkGs p c xs es
    | [] => false)
end
theorem chk_star {p : Pg} {c : Dc} {x : Ex} {e : Expr} {pos : Pos} : chkE p c x (.Starred e pos) = false := by cases x <;> rfl
theorem chk_slice {p : Pg} {c : Dc} {x : Ex} {a b d : Option Expr} {pos : Pos} : chkE p c x (.Slice a b d pos) = false := by cases x <;> rfl
theorem star_plain {p : Pg} {c : Dc} {x : Ex} {e : Expr} (h : chkE p c x e = true) (es : List Expr) (env : PySem.Env) : starEach (e :: es) env = (false, eval e env) :: starEach es env := by
  cases e <;> first | rfl | (rw [chk_star] at h; cases h)
theorem chkEs_star {p : Pg} {c : Dc} : ∀ {xs : List Ex} {es : List Expr}, chkEs p c xs es = true → ∀ (env : PySem.Env) (pos : Pos), (backTo pos (starEach es env)).any (·.1) = false
  | [], es, h, env, pos => by
    cases es with
    | nil => rfl
    | cons e es => simp [chkEs] at h
  | x :: xs, es, h, env, pos => by
    cases es with
    | nil => simp [chkEs] at h
    | cons e es =>
      simp only [chkEs, Bool.and_eq_true] at h
      rw [star_plain h.1]
      have := chkEs_star h.2 env pos
      simp only [backTo, List.map_cons, List.any_cons, Bool.false_or] at this ⊢
      exact this
end Dx

set_option maxRecDepth 100000
set_option maxHeartbeats 4000000
/-! Dx6s: sets of keys of one kind, as sorted(set(..)) makes them: built from a text's signs, gathered, sorted. -/
namespace Dx
open PySem PySem.Spec PyProof.Rows L2
section
variable {P : Program} {w : World} {K : Type} [DecidableEq K] {kd : KeyKind P w K} {A : Around} {E : Value → Shared → Prop} {s : Shared}
abbrev Ent : Type := Int × Value
/-- no key stands twice -/
def Apart (kd : KeyKind P w K) (l : List Ent) : Prop := l.Pairwise fun e f => ∀ k, kd.is k e.2 = true → kd.is k f.2 = false
theorem apart_sym {e f : Ent} (h : ∀ k, kd.is k e.2 = true → kd.is k f.2 = false) : ∀ k, kd.is k f.2 = true → kd.is k e.2 = false := fun k hk => by
  cases q : kd.is k e.2 with
  | false => rfl
  | true => rw [h k q] at hk; cases hk
theorem Apart.perm {l l' : List Ent} (h : Apart kd l) (p : l'.Perm l) : Apart kd l' := (p.pairwise_iff (fun {a b} q => apart_sym q)).mpr h
def led (w : World) : Bool := !w.params.followText "set-order"
def Led (w : World) (t : SetTable) : Prop := w.params.followText "set-order" = true ∨ t.led = true
/-- the set at a, as it is walked later: its members' test, their number -/
structure SetG (kd : KeyKind P w K) (h : Heap) (a : Addr) (S : K → Bool) (n : Nat) : Prop where
  ex : ∃ (o : Obj) (es : Array Ent) (ep : Nat) (t : SetTable), h.get? a = some o ∧ o.ExactSet ∧ o.data = .set es ep t ∧ ElemsOf kd es.toList ∧ Apart kd es.toList ∧ (∀ k, S k = true ↔ ∃ e ∈ es.toList, kd.is k e.2 = true) ∧ es.size = n ∧ n < scanBound ∧ t.fits es.size = true ∧ Ris t.place.toList ∧ Led w t
theorem SetG.keep {h h' : Heap} {a : Addr} {S : K → Bool} {n : Nat} (g : SetG kd h a S n) (k : ∀ o, h.get? a = some o → h'.get? a = some o) : SetG kd h' a S n :=
  let ⟨o, es, ep, t, ho, r⟩ := g.ex
  ⟨o, es, ep, t, k o ho, r⟩
theorem SetG.re {h : Heap} {a : Addr} {S S' : K → Bool} {n n' : Nat} (g : SetG kd h a S n) (e : ∀ k, S' k = S k) (en : n' = n) : SetG kd h a S' n' := by
  subst en
  rw [show S' = S from funext e]
  exact g
abbrev freshSet (w : World) : Obj := { cls := .type "set", dict := none, data := .set #[] 0 (.fresh 0 0 (!w.params.followText "set-order")) }
theorem setG_nil {h : Heap} {a : Addr} (ho : h.get? a = some (freshSet w)) : SetG kd h a (fun _ => false) 0 :=
  ⟨_, #[], 0, _, ho, ⟨rfl, rfl, rfl⟩, rfl, fun e he => by simp at he, List.Pairwise.nil, fun k => by simp, rfl, by decide, rfl, .nil, by
    show _ ∨ (!w.params.followText "set-order") = true
    cases w.params.followText "set-order"
    · right; rfl
    · left; rfl⟩
/-- the table's end of an addition -/
theorem setG_lay {g : Bool → Sem Unit} (hg : ∀ (b : Bool) (st : Shared) (R : Unit → Shared → Prop), R () st → wpAny (model P w) A (g b) R E st) {a : Addr} {o : Obj} {es es1 : Array Ent} {ep : Nat} {t t1 : SetTable} (ho : s.heap.get? a = some o) (hex : o.ExactSet) (hd : o.data = .set es ep t)
    {S : K → Bool} (x1 : ElemsOf kd es1.toList) (x2 : Apart kd es1.toList) (x3 : ∀ k, S k = true ↔ ∃ e ∈ es1.toList, kd.is k e.2 = true) (x4 : es1.size < scanBound) (x5 : t1.fits es1.size = true) (x6 : Ris t1.place.toList) (x7 : Led w t1) {dm : Bool} {R : Option Bool → Shared → Prop}
    (hR : ∀ h', Heap.SameBut a s.heap h' → SetG kd h' a S es1.size → R (some true) { s with heap := h' }) :
    wpAny (model P w) A (do storeSet a es1 t1; if (!dm && t1.tooFull) = true then do (do g (relayAll t1 es1 (SetTable.grown es1.size)).2.2; storeSet a (relayAll t1 es1 (SetTable.grown es1.size)).1 (relayAll t1 es1 (SetTable.grown es1.size)).2.1; pure (some true)) else pure (some true)) R E s := by
  refine wpAny_bind (wpAny_storeSet_of ho hd ?_ (fits_of_scanBound x4))
  have p1 := L2.store_at (es' := es1) (t' := t1) ho hd
  have b1 := Heap.SameBut.update s.heap a (Obj.putSet es1 t1)
  by_cases hc : (!dm && t1.tooFull) = true
  · rw [if_pos hc]
    have q1 := relayAll_perm t1 es1 (SetTable.grown es1.size)
    have q2 := relayAll_fits t1 es1 (SetTable.grown es1.size)
    have q3 := L2.relayAll_ris t1 es1 (SetTable.grown es1.size)
    have q4 := L2.relayAll_led t1 es1 (SetTable.grown es1.size)
    revert q1 q2 q3 q4
    rcases relayAll t1 es1 (SetTable.grown es1.size) with ⟨es2, t2, gv⟩
    intro q1 q2 q3 q4
    have z : es2.size = es1.size := by rw [← Array.length_toList, ← Array.length_toList]; exact q1.length_eq
    have z2 : es2.size < scanBound := by omega
    refine wpAny_bind (hg gv _ _ (wpAny_bind (wpAny_storeSet_of p1 rfl (wpAny_pure ?_) (fits_of_scanBound z2))))
    have p2 := L2.store_at (es' := es2) (t' := t2) p1 rfl
    refine hR _ (b1.trans (.update _ a _)) ⟨_, es2, _, t2, p2, hex, rfl, fun e he => x1 e (q1.mem_iff.mp he), x2.perm q1, fun k => (x3 k).trans ?_, z, x4, q2, q3, x7.imp id fun y => by rw [q4]; exact y⟩
    constructor
    · rintro ⟨e, he, k1⟩; exact ⟨e, q1.mem_iff.mpr he, k1⟩
    · rintro ⟨e, he, k1⟩; exact ⟨e, q1.mem_iff.mp he, k1⟩
  · rw [if_neg hc]
    exact wpAny_pure (hR _ b1 ⟨_, es1, _, t1, p1, hex, rfl, x1, x2, x3, rfl, x4, x5, x6, x7⟩)
theorem setG_add {a : Addr} {S : K → Bool} {n : Nat} {k : K} {v : Value} {Q : Bool → Shared → Prop} (hk : kd.is k v = true) (hv : v.scannable = true) (G : SetG kd s.heap a S n) (room : n + 1 < scanBound)
    (hQ : ∀ (b : Bool) h', Heap.SameBut a s.heap h' → SetG kd h' a (fun j => S j || decide (j = k)) (if S k = true then n else n + 1) → Q b { s with heap := h' }) :
    wpAny (model P w) A (setAddHashed a v (kd.hash k)) Q E s := by
  obtain ⟨o, es, ep, t, ho, hex, hd, g1, g2, g3, hn, hb, hf, g4, g5⟩ := G.ex
  subst hn
  unfold setAddHashed setAddHashedIn
  refine wpAny_holding (wpAny_bind (wpAny_setState_of ho hd hf ?_))
  dsimp only
  rw [byScan_of hv hb g1, if_pos rfl]
  unfold setAddByScan
  refine wpAny_bind (wpAny_bind (wpAny_rule (wpAny_bind (wpAny_setScan_of hk ho hd hf g1 ?_))))
  cases hfi : List.findIdx? (fun e => kd.is k e.2) es.toList
  case none =>
    dsimp only
    have out : ∀ e ∈ es.toList, kd.is k e.2 = false := fun e he => by simpa using List.findIdx?_eq_none_iff.mp hfi e he
    have sk : S k = false := by
      rcases q : S k with _ | _
      · rfl
      · obtain ⟨e, he, q2⟩ := (g3 k).mp q
        rw [out e he] at q2
        cases q2
    have gw : ∀ (b : Bool) {st : Shared} {R : Unit → Shared → Prop}, R () st → wpAny (model P w) A (match b with | true => rule "set.scan.the-table-gave-way" | false => pure ()) R E st := fun b st R q => by
      rcases b with _ | _
      · exact wpAny_pure q
      · exact wpAny_rule q
    have q1 := layNew_perm t es (kd.hash k) v
    have q2 := layNew_fits t es (kd.hash k) v
    have q3 := L2.layNew_ris t es (kd.hash k) v g4
    have q4 := L2.layNew_led t es (kd.hash k) v
    revert q1 q2 q3 q4
    rcases layNew t es (kd.hash k) v with ⟨es1, t1, dm, gv⟩
    intro q1 q2 q3 q4
    rw [Array.toList_push] at q1
    have pc : es1.toList.Perm ((kd.hash k, v) :: es.toList) := q1.trans (List.perm_append_singleton _ _)
    have y1 : ElemsOf kd es1.toList := fun e he => by
      rcases List.mem_cons.mp (pc.mem_iff.mp he) with z | z
      · subst z; exact ⟨⟨k, hk, rfl⟩, hv⟩
      · exact g1 e z
    have y2 : Apart kd es1.toList := Apart.perm (List.pairwise_cons.mpr ⟨fun e he j hj => by
      have e2 : j = k := kd.inj v j k hj hk
      subst e2
      exact out e he, g2⟩) pc
    have y3 : ∀ j, (S j || decide (j = k)) = true ↔ ∃ e ∈ es1.toList, kd.is j e.2 = true := fun j => by
      rw [Bool.or_eq_true, decide_eq_true_eq, g3 j]
      constructor
      · rintro (⟨e, he, z⟩ | rfl)
        · exact ⟨e, pc.mem_iff.mpr (List.mem_cons_of_mem _ he), z⟩
        · exact ⟨_, pc.mem_iff.mpr List.mem_cons_self, hk⟩
      · rintro ⟨e, he, z⟩
        rcases List.mem_cons.mp (pc.mem_iff.mp he) with u | u
        · subst u; exact .inr (kd.inj v j k z hk)
        · exact .inl ⟨e, u, z⟩
    have y4 : es1.size = es.size + 1 := by rw [← Array.length_toList, pc.length_eq]; simp
    have y5 : es1.size < scanBound := by omega
    have y7 : Led w t1 := g5.imp id fun z => by rw [q4]; exact z
    have fin : ∀ h', Heap.SameBut a s.heap h' → SetG kd h' a (fun j => S j || decide (j = k)) es1.size → Q true { s with heap := h' } := fun h' sb G' => hQ true h' sb (G'.re (fun _ => rfl) (by rw [sk, if_neg (by simp), y4]))
    dsimp only
    refine wpAny_bind (gw _ ?_)
    split
    · refine wpAny_bind ?_
      rw [hashByValue_scannable 8 hv]
      refine wpAny_pure (setG_lay (fun b st R q => gw b q) ho hex hd y1 y2 y3 y5 ?_ ?_ ?_ fun h' sb G' => wpAny_pure (fin h' sb G'))
      · first | exact q2 | (split <;> first | exact q2 | exact SetTable.fits_plain_off q2)
      · first | exact q3 | (split <;> exact q3)
      · first | exact y7 | (split <;> exact y7)
    · exact wpAny_bind (wpAny_pure (setG_lay (fun b st R q => gw b q) ho hex hd y1 y2 y3 y5 q2 q3 y7 fun h' sb G' => wpAny_pure (fin h' sb G')))
  case some j =>
    dsimp only
    obtain ⟨hj, pj, _⟩ := List.findIdx?_eq_some_iff_getElem.mp hfi
    have sk : S k = true := (g3 k).mpr ⟨_, List.getElem_mem hj, pj⟩
    refine wpAny_pure (wpAny_pure (hQ false s.heap (.refl a s.heap) (G.re (fun i => ?_) (by rw [if_pos sk]))))
    by_cases e : i = k
    · subst e; rw [sk]; rfl
    · rw [decide_eq_false e, Bool.or_false]
/-- all that an iterator gives is put in -/
theorem setG_all {I : Addr} {fp wr : List Addr} {G : Array GenState → Array GenState → Prop} {n : Nat} {Pv : Nat → Value → Prop} {St : Nat → Shared → Prop} {R : Result → Shared → Prop} (W : WalksS P w A.in1 I fp wr G n Pv St) (a : Addr) (hf : a ∉ fp) (ks : List K) (hn : n = ks.length) (hb : n + 1 < scanBound)
    (hv : ∀ i v, Pv i v → ∃ k, ks[i]? = some k ∧ kd.is k v = true ∧ v.scannable = true) (left : Nat) : ∀ (i : Nat) (st : Shared), n - i = left → i ≤ n → St i st → (∃ c, c ≤ i ∧ SetG kd st.heap a (fun j => decide (j ∈ ks.take i)) c) →
      (∀ st' c, Moved (a :: wr) G st st' → c ≤ n → SetG kd st'.heap a (fun j => decide (j ∈ ks)) c → R (.ok (.ret .none)) st') → codeAny (model P w) A (.builtin "set.update.loop" ⟨[.ref a, .ref I], []⟩) R st := by
  have nw : a ∉ wr := fun h => hf (W.sub _ h)
  have up : ∀ b ∈ wr, b ∈ a :: wr := fun b h => .tail _ h
  induction left with
  | zero =>
    intro i st e0 hi hst ⟨c, hc, g⟩ hR
    obtain rfl : i = n := by omega
    refine codeAny_builtin PyProof.Rows.F.entry_set_update_loop ?_
    rw [Around.under_plainId PyProof.Rows.F.plain_set_update_loop _]
    show wpAny _ A.in1 (pyNext (.ref I) >>= _) _ _ st
    refine wpAny_bind (W.done st _ _ hst fun st2 mv => ?_)
    rw [List.take_of_length_le (by omega)] at g
    exact wpAny_pure (hR st2 c (mv.mono up) hc (g.keep fun o e => mv.heap a o nw e))
  | succ left ih =>
    intro i st e0 hi hst ⟨c, hc, g⟩ hR
    have lt : i < n := by omega
    refine codeAny_builtin PyProof.Rows.F.entry_set_update_loop ?_
    rw [Around.under_plainId PyProof.Rows.F.plain_set_update_loop _]
    show wpAny _ A.in1 (pyNext (.ref I) >>= _) _ _ st
    refine wpAny_bind (W.item i st _ _ lt hst fun v st2 pv hst2 mv => ?_)
    obtain ⟨k, ek, kv, sv⟩ := hv i v pv
    have g2 := g.keep (h' := st2.heap) fun o e => mv.heap a o nw e
    show wpAny _ A.in1 (holding [v] (setAdd a v) >>= _) _ _ st2
    refine wpAny_bind (wpAny_holding ?_)
    unfold setAdd
    refine wpAny_holding (wpAny_bind (kd.pyHash kv (setG_add (s := { st2 with toks := st2.toks + 1 }) kv sv g2 (by omega) fun bb h' sb g3 => ?_)))
    have c3 : (if decide (k ∈ ks.take i) = true then c else c + 1) ≤ i + 1 := by split <;> omega
    have g4 : SetG kd h' a (fun j => decide (j ∈ ks.take (i + 1))) (if decide (k ∈ ks.take i) = true then c else c + 1) := g3.re (fun j => by rw [List.take_add_one, ek]; simp) rfl
    refine wpAny_pure ⟨plainId_quiet PyProof.Rows.F.plain_set_update_loop _, ih (i + 1) _ (by omega) lt (W.frame _ st2 _ _ hst2 (Nat.le_succ _) fun b hb2 o e => ?_) ⟨_, c3, g4⟩ fun st3 c4 mv3 hc4 g5 => ?_⟩
    · exact (sb.2 b (fun z => hf (z ▸ hb2))).trans e
    · exact hR st3 c4 (Moved.trans W.gtrans ((mv.mono up).then_heap (Nat.le_succ _) fun b o hb2 e => (sb.2 b (fun z => hb2 (z ▸ .head _))).trans e) mv3) hc4 g5
/-- the signs of a text -/
abbrev sgn (x : Str) : List Str := x.cps.toList.map fun c => (⟨#[c]⟩ : Str)
set_option maxHeartbeats 8000000 in
theorem call_set_txt {x : Str} {t : Tok} {Q : Value → Shared → Prop} (hh : A.handled = none) (hb : x.cps.size + 1 < scanBound)
    (h : ∀ (h' : Heap) (tk c : Nat), SetG (strKind P w) h' s.heap.objs.size (fun j => decide (j ∈ sgn x)) c → c ≤ x.cps.size → (∀ b o, s.heap.get? b = some o → h'.get? b = some o) → Q (.ref s.heap.objs.size) { s with heap := h', toks := tk }) :
    wpAny (model P w) A (call (.type "set") [.str x t]) Q E s := by
  obtain ⟨mc, ml, hm⟩ := PySem.F.called_set.mro
  have m1 := PySem.F.called_set.made
  have m2 := PySem.F.called_set.sub
  have m3 := PySem.F.called_set.notType
  have m4 := PySem.F.called_set.canCreate
  have m5 := PySem.F.typeCall_set_1 (.str x t)
  refine wpAny_call (codeAny_of_tree ?_)
  show wpAny _ _ (callAny (.type "set") _) _ _ _
  refine wpAny_pure ⟨Code.quiet_builtin _ (by decide +kernel), codeAny_builtin PySem.F.entry_type_call ?_⟩
  rw [Around.under_plain (weight_type_call_type "set" [.str x t] []) rfl]
  repeat (any_goals (first | assumption | wp_step))
  refine codeAny_mono (code_set_led1 (.str x t) (E := E) (Q₁ := fun v st => v = .ref s.heap.objs.size ∧ st = { s with heap := s.heap.push (freshSet w) }) ⟨rfl, rfl⟩) fun r st hr => ?_
  rcases r with e | fl
  · exact hr
  rcases fl with _ | _ | _ | v
  any_goals exact hr.elim
  obtain ⟨rfl, rfl⟩ := hr
  have o1 : (s.heap.push (freshSet w)).get? s.heap.objs.size = some (freshSet w) := Heap.get?_push_size _ rfl
  have ty : Shared.TypeIs { s with heap := s.heap.push (freshSet w) } (.ref s.heap.objs.size) "set" := ⟨_, o1, rfl⟩
  have i1 := PySem.F.called_set.init.lookup
  have i2 := PySem.F.called_set.init.bind (.ref s.heap.objs.size)
  repeat (any_goals (first | assumption | wp_step))
  refine codeAny_mono (codeAny_call_builtin (R := wants (fun r st => r = .none ∧ ∃ h' tk c, st = { s with heap := h', toks := tk } ∧ SetG (strKind P w) h' s.heap.objs.size (fun j => decide (j ∈ sgn x)) c ∧ c ≤ x.cps.size ∧ (∀ b o, s.heap.get? b = some o → h'.get? b = some o)) E) PySem.F.called_set.init.plain PySem.F.entry_set_init (check_set_init_1 ty ?_)) fun r st hr => ?_
  · have n1 : (Value.type "str" == Value.type "dict") = false := by decide
    have n2 : isSubtype (.type "str") (.type "set") = pure false := by rw [isSubtype_type]; kernel_rfl
    have n3 : isSubtype (.type "str") (.type "frozenset") = pure false := by rw [isSubtype_type]; kernel_rfl
    unfold Builtin.«set.__init__» noKeywords Builtin.Frozenset.updateFrom
    generalize hp : pyIter = PI
    wp_walk
    subst hp
    refine wpAny_pyIter_str fun ob St Wk hst => ?_
    refine wpAny_bind (wpAny_runValue ?_)
    have hh3 : A.in1.in1.in1.handled = none := by simp [hh]
    have z1 : (s.heap.push (freshSet w)).objs.size = s.heap.objs.size + 1 := Heap.size_push ..
    refine setG_all (kd := strKind P w) (Wk _ hh3).toS s.heap.objs.size (by rw [z1]; simp) (sgn x) (by simp) hb (fun i v pv => ?_) (x.cps.size - 0) 0 _ rfl (Nat.zero_le _) hst ⟨0, Nat.le_refl 0, (setG_nil (Heap.get?_push_of_some _ o1)).re (fun _ => by simp) rfl⟩ fun st c mv hc g => ?_
    · obtain ⟨cd, u, e1, rfl⟩ := pv
      have e2 : x.cps.toList[i]? = some cd := by simpa using e1
      exact ⟨⟨#[cd]⟩, by rw [List.getElem?_map, e2]; rfl, strKind_is _ _ _ _, rfl⟩
    · obtain ⟨h', g2, d2, tk, os2⟩ := st
      obtain rfl : g2 = s.gens := mv.gens
      obtain rfl : d2 = s.drawn := mv.drawn
      obtain rfl : os2 = s.os := mv.os
      show wpAny _ _ _ _ _ _
      refine wpAny_pure ?_
      show wpAny _ _ (PySem.ret Value.none) _ _ _
      refine wpAny_pure ⟨rfl, h', tk, c, rfl, g, hc, fun b o e => ?_⟩
      have lb : b < s.heap.objs.size := Heap.lt_size e
      refine mv.heap b o (fun z => ?_) (Heap.get?_push_of_some _ (Heap.get?_push_of_some _ e))
      rw [z1] at z
      rcases List.mem_cons.mp z with z | z
      · exact absurd lb (by rw [z]; exact Nat.lt_irrefl _)
      · exact absurd lb (by rw [List.mem_singleton.mp z]; exact Nat.not_lt_of_le (Nat.le_succ _))
  · rcases r with e | fl
    · exact hr
    rcases fl with _ | _ | _ | v
    any_goals exact hr.elim
    obtain ⟨rfl, h', tk, c, rfl, g, hc, kp⟩ := hr
    repeat (any_goals (first | assumption | wp_step))
    exact h _ _ _ g hc kp
/-- what sorted() leaves of texts: at p, behind a heap hm in which nothing stood there -/
structure Srt (h h' : Heap) (p : Addr) (ys : List Str) : Prop where
  mid : ∃ hm : Heap, (∀ b o, h.get? b = some o → hm.get? b = some o) ∧ (∀ b o, hm.get? b = some o → h'.get? b = some o) ∧ hm.objs.size ≤ p
  at_ : ∃ (out : Array Value) (c : Nat), h'.get? p = some (PyProof.Rows.seqObj "list" out c) ∧ PyProof.Rows.StrsAre out.toList ys
  ord : sortedS ys = true
theorem sort_tail {s1 : Shared} {vs : List Value} {ss : List Str} {kw : List (Str × Value)} {Q : Value → Shared → Prop} (ek : kw = []) (kp : ∀ b o, s.heap.get? b = some o → s1.heap.get? b = some o) (hS : PyProof.Rows.StrsAre vs ss) (hL : vs.length ≤ sizeLine)
    (hQ : ∀ h' p ys, Srt s.heap h' p ys → ys.Perm ss → Q (.ref p) { s1 with heap := h' }) :
    wpAny (model P w) A (do let l ← newList vs; let _ ← holding [l] (call (.builtin "list.sort") [l] kw); PySem.ret l) (fun fin st => ∃ v, fin = Fin.done (Flow.ret v) ∧ Q v st) E s1 := by
  subst ek
  refine wpAny_bind (wpAny_newList ?_ hL)
  have o1 : (s1.heap.push (PyProof.Rows.seqObj "list" vs.toArray 0)).get? s1.heap.objs.size = some (PyProof.Rows.seqObj "list" vs.toArray 0) := Heap.get?_push_size _ rfl
  refine wpAny_bind (wpAny_holding (wpAny_call_entry PyProof.Rows.slot_list_sort ⟨_, o1, rfl⟩ PyProof.Rows.entry_list_sort (PyProof.Rows.list_sort_treeKAny PyProof.Rows.strKind_oneLt o1 hS.keysOf (fun v1 v2 r e => PyProof.Rows.keyKind_strs (by rw [← e]; exact hS)) hL fun st a1 a2 => ⟨_, rfl, ?_⟩) (PyProof.Rows.args_list_sort _)))
  obtain ⟨ys, z1, z2, z3⟩ := PyProof.Rows.sorted_out_str hS a1 a2
  obtain ⟨c, hc⟩ := PyProof.Rows.sortedHeap_at (vs := vs) (out := (arrOf st).map (·.2)) o1
  refine wpAny_pure ⟨_, rfl, hQ _ s1.heap.objs.size ys ⟨⟨s1.heap, kp, fun b o e => ?_, Nat.le_refl _⟩, ⟨_, c, hc, z1⟩, z3⟩ z2⟩
  have lt := Heap.lt_size e
  show (PyProof.Rows.sortedHeap (s1.heap.push (PyProof.Rows.seqObj "list" vs.toArray 0)) s1.heap.objs.size vs _).get? b = some o
  rw [PyProof.Rows.sortedHeap_old (Nat.ne_of_lt lt) (by rw [PyProof.Rows.size_push']; exact Nat.lt_succ_of_lt lt)]
  exact Heap.get?_push_of_some _ e
theorem strs_sgn {x : Str} {acc : Array Value} (it : ItemsOf (SignAt x) acc x.cps.size) : PyProof.Rows.StrsAre acc.toList (sgn x) := by
  have gen : ∀ (vs : List Value) (ys : List Str), vs.length = ys.length → (∀ (i : Nat) (v : Value) (y : Str), vs[i]? = some v → ys[i]? = some y → ∃ t, v = .str y t) → PyProof.Rows.StrsAre vs ys := fun vs => by
    induction vs with
    | nil =>
      intro ys hl _
      cases ys with
      | nil => exact .nil
      | cons _ _ => cases hl
    | cons v vs ih =>
      intro ys hl h
      cases ys with
      | nil => cases hl
      | cons y ys =>
        obtain ⟨t, rfl⟩ := h 0 v y rfl rfl
        exact .cons y t (ih ys (by simpa using hl) fun i a b h1 h2 => h (i + 1) a b h1 h2)
  refine gen _ _ (by rw [Array.length_toList, it.1]; simp) fun i v y h1 h2 => ?_
  obtain ⟨c, u, e1, e2⟩ := it.2 i v (by rw [← Array.getElem?_toList]; exact h1)
  rw [List.getElem?_map] at h2
  have e3 : x.cps.toList[i]? = some c := by simpa using e1
  rw [e3] at h2
  cases h2
  exact ⟨u, e2⟩
theorem sorted_txt {x : Str} {t : Tok} {Q : Value → Shared → Prop} (hh : A.handled = none) (hz : x.cps.size ≤ sizeLine) (hQ : ∀ h' p ys tk, Srt s.heap h' p ys → ys.Perm (sgn x) → Q (.ref p) { s with heap := h', toks := tk }) : wpAny (model P w) A (call (.builtin "sorted") [.str x t]) Q E s := by
  refine Calls.call_function_entry PyProof.Rows.kind_sorted PyProof.Rows.plain_sorted PyProof.Rows.entry_sorted (PyProof.Rows.args_sorted1 _) ?_
  unfold Builtin.«sorted»
  refine wpAny_bind (m := checkCount "sorted" 1 1 _) (wpAny_pure ?_)
  refine wpAny_bind (wpAny_collect_str (A := A.in1) hh x t (fun s1 acc k1 g1 d1 o1 it => ?_) hz)
  refine sort_tail (s := s) rfl k1 (strs_sgn it) (by rw [Array.length_toList, it.1]; exact hz) fun h' p ys sr pm => ?_
  obtain ⟨h1, g2, d2, tk, os2⟩ := s1
  obtain rfl : g2 = s.gens := g1
  obtain rfl : d2 = s.drawn := d1
  obtain rfl : os2 = s.os := o1
  exact hQ h' p ys tk sr pm
def strIn (e : Ent) : Str := match e.2 with
  | .str y _ => y
  | _ => Str.empty
theorem sorted_setS {a : Addr} {S : Str → Bool} {n : Nat} {Q : Value → Shared → Prop} (G : SetG (strKind P w) s.heap a S n) (hh : A.handled = none)
    (hQ : ∀ h' p ys tk dr, Srt s.heap h' p ys → ys.Nodup → (∀ k, k ∈ ys ↔ S k = true) → ys.length ≤ sizeLine → Q (.ref p) { s with heap := h', toks := tk, drawn := dr }) : wpAny (model P w) A (call (.builtin "sorted") [.ref a]) Q E s := by
  obtain ⟨o, es, ep, t, ho, hex, hd, g1, g2, g3, hn, hb, hf, g4, g5⟩ := G.ex
  subst hn
  have is : ∀ e ∈ es.toList, ∃ u, e.2 = .str (strIn e) u := fun e he => by
    obtain ⟨⟨k, hk, _⟩, _⟩ := g1 e he
    cases ev : e.2 with
    | str y u => exact ⟨u, by unfold strIn; rw [ev]⟩
    | _ => rw [ev] at hk; cases hk
  have isk : ∀ e ∈ es.toList, ∀ k, (strKind P w).is k e.2 = true ↔ strIn e = k := fun e he k => by
    obtain ⟨u, eu⟩ := is e he
    rw [eu]
    constructor
    · intro h; exact (strKind P w).inj _ _ _ (strKind_is P w _ u) h
    · intro h; subst h; exact strKind_is P w _ u
  refine Calls.call_function_entry PyProof.Rows.kind_sorted PyProof.Rows.plain_sorted PyProof.Rows.entry_sorted (PyProof.Rows.args_sorted1 _) ?_
  unfold Builtin.«sorted»
  refine wpAny_bind (m := checkCount "sorted" 1 1 _) (wpAny_pure ?_)
  refine wpAny_bind (L2.collect_set (A := A.in1) hh ⟨o, ho, hex.1, hd⟩ hf hb g4 g5 fun s1 vs k1 hz1 gg1 oo1 pm => ?_)
  have hS : PyProof.Rows.StrsAre vs (vs.map fun v => strIn (0, v)) := by
    have al : ∀ v ∈ vs, ∃ u, v = .str (strIn (0, v)) u := fun v hv => by
      obtain ⟨e, he, rfl⟩ := List.mem_map.mp (pm.mem_iff.mp hv)
      exact is e he
    clear pm
    induction vs with
    | nil => exact .nil
    | cons v vs ih =>
      obtain ⟨u, eu⟩ := al v (by simp)
      rw [List.map_cons]
      rw [eu] at *
      exact .cons _ u (ih fun z hz => al z (by simp [hz]))
  have pk : (vs.map fun v => strIn (0, v)).Perm (es.toList.map strIn) := by
    have q := pm.map fun v => strIn (0, v)
    rw [List.map_map] at q
    exact q
  refine sort_tail (s := s) rfl k1 hS (by rw [pm.length_eq, List.length_map, Array.length_toList]; exact fits_of_scanBound hb) fun h' p ys sr pm2 => ?_
  have pm3 := pm2.trans pk
  obtain ⟨h1, g2', d2, tk, os2⟩ := s1
  obtain rfl : g2' = s.gens := gg1
  obtain rfl : os2 = s.os := oo1
  refine hQ h' p ys tk d2 sr (pm3.nodup_iff.mpr ?_) (fun k => ?_) (by rw [pm3.length_eq, List.length_map, Array.length_toList]; exact fits_of_scanBound hb)
  · refine List.pairwise_map.mpr (List.Pairwise.imp_of_mem (fun {e f} he hf2 q z => ?_) g2)
    have := q (strIn e) ((isk e he _).mpr rfl)
    rw [(isk f hf2 _).mpr z.symm] at this
    cases this
  · rw [pm3.mem_iff, g3 k, List.mem_map]
    constructor
    · rintro ⟨e, he, z⟩; exact ⟨e, he, (isk e he k).mpr z⟩
    · rintro ⟨e, he, z⟩; exact ⟨e, he, (isk e he k).mp z⟩
end
section
variable {X : Cx}
theorem laid_srt {pins : List (Addr × Obj)} {σ : L2.St} {H : Hp} {s : Shared} {h' : Heap} {p : Addr} {ys : List Str} {tk : Nat} (I : L2.Inv X pins σ H s) (sr : Srt s.heap h' p ys) (hz : ys.length ≤ sizeLine) :
    H p = none ∧ L2.Inv X pins σ (upd H p (.lst (ys.map V.str))) { s with heap := h', toks := tk } := by
  obtain ⟨hm, k1, k2, le⟩ := sr.mid
  obtain ⟨out, c, e1, e2⟩ := sr.at_
  have I1 : L2.Inv X pins σ H { s with heap := hm, toks := tk } := I.kept k1
  exact ⟨I1.hok.fresh le, I1.laid (t' := tk) k2 le ⟨by rw [List.length_map]; exact hz, out.toList, c, vals_of_strs e2, e1⟩⟩
def rTxtSort : List V → Hp → VK → Prop := fun vs H Q => ∃ x : Str, vs = [.str x] ∧ x.cps.size ≤ sizeLine ∧ ∀ ys p, ys.Perm (sgn x) → sortedS ys = true → H p = none → Q (.ref p) (upd H p (.lst (ys.map V.str)))
theorem cr_sortedTxt (hc : X.calm = true) : CallR X (.builtin "sorted") rTxtSort := by
  intro pins s σ H vs us Q I r h
  obtain ⟨x, rfl, hz, q⟩ := h
  obtain ⟨u, rfl, t, rfl⟩ := vals1 r
  refine sorted_txt (I.ok.hd hc) hz fun h' p ys tk sr pm => ?_
  obtain ⟨n, J⟩ := laid_srt (tk := tk) I sr (by rw [pm.length_eq, List.length_map, Array.length_toList]; exact hz)
  exact ⟨.ref p, _, J, rfl, q ys p pm sr.ord n⟩
def rTxtList (K : Bool) : List V → Hp → VK → Prop := fun vs H Q => ∃ x : Str, vs = [.str x] ∧ x.cps.size ≤ sizeLine ∧ ∀ p, H p = none → Q (.ref p) (upd H p (if K then .lst ((sgn x).map V.str) else .tup ((sgn x).map V.str)))
theorem cr_listTxt (hc : X.calm = true) : CallR X (.type "list") (rTxtList true) := by
  intro pins s σ H vs us Q I r h
  obtain ⟨x, rfl, hz, q⟩ := h
  obtain ⟨u, rfl, t, rfl⟩ := vals1 r
  refine call_list_str (hn := hz) (I.ok.hd hc) x t fun h' tk acc c hk hS it => ?_
  refine ⟨.ref s.heap.objs.size, upd H s.heap.objs.size (.lst ((sgn x).map V.str)), I.laid (t' := tk) hk (Nat.le_refl _) ⟨by simpa using hz, acc.toList, c, vals_of_strs (strs_sgn it), hS⟩, rfl, q _ (I.hok.fresh (Nat.le_refl _))⟩
theorem cr_tupleTxt (hc : X.calm = true) : CallR X (.type "tuple") (rTxtList false) := by
  intro pins s σ H vs us Q I r h
  obtain ⟨x, rfl, hz, q⟩ := h
  obtain ⟨u, rfl, t, rfl⟩ := vals1 r
  refine call_tuple_str (hsz := hz) (I.ok.hd hc) x t fun h' tk acc hk it => ?_
  have I1 : L2.Inv X pins σ H { s with heap := h', toks := tk } := I.kept hk
  have o1 : (h'.push { cls := .type "tuple", data := .seq acc }).get? h'.objs.size = some { cls := .type "tuple", data := .seq acc } := Heap.get?_push_size _ rfl
  refine ⟨.ref h'.objs.size, upd H h'.objs.size (.tup ((sgn x).map V.str)), I1.laid (t' := tk) (fun b o e => Heap.get?_push_of_some _ e) (Nat.le_refl _) ⟨by simpa using hz, acc.toList, vals_of_strs (strs_sgn it), ⟨_, o1, rfl, _, rfl⟩⟩, rfl, q _ (I1.hok.fresh (Nat.le_refl _))⟩
/-- a tracked set of texts -/
def SetX (P : Program) (w : World) (a : Addr) (S : Str → Bool) (n : Nat) : HO := .ext fun h => SetG (strKind P w) h a S n
def rTxtSet (P : Program) (w : World) : List V → Hp → VK → Prop := fun vs H Q => ∃ x : Str, vs = [.str x] ∧ x.cps.size + 1 < scanBound ∧ ∀ p c, H p = none → Q (.ref p) (upd H p (SetX P w p (fun j => decide (j ∈ sgn x)) c))
theorem cr_setTxt (hc : X.calm = true) : CallR X (.type "set") (rTxtSet X.prog X.w) := by
  intro pins s σ H vs us Q I r h
  obtain ⟨x, rfl, hz, q⟩ := h
  obtain ⟨u, rfl, t, rfl⟩ := vals1 r
  refine call_set_txt (I.ok.hd hc) hz fun h' tk c g _ kp => ?_
  obtain ⟨o, _, _, _, ho, _⟩ := g.ex
  exact ⟨.ref s.heap.objs.size, upd H s.heap.objs.size (SetX X.prog X.w s.heap.objs.size (fun j => decide (j ∈ sgn x)) c), I.laid (t' := tk) kp (Nat.le_refl _) ⟨g, ⟨o, ho⟩, fun h1 h2 p k => SetG.keep p k⟩, rfl, q _ c (I.hok.fresh (Nat.le_refl _))⟩
def rSetSort (P : Program) (w : World) : List V → Hp → VK → Prop := fun vs H Q => ∃ (a : Addr) (S : Str → Bool) (n : Nat), vs = [.ref a] ∧ H a = some (SetX P w a S n) ∧ ∀ ys p, sortedS ys = true → ys.Nodup → (∀ k, k ∈ ys ↔ S k = true) → ys.length ≤ sizeLine → H p = none → Q (.ref p) (upd H p (.lst (ys.map V.str)))
theorem cr_sortedSetTxt (hc : X.calm = true) : CallR X (.builtin "sorted") (rSetSort X.prog X.w) := by
  intro pins s σ H vs us Q I r h
  obtain ⟨a, S, n, rfl, ha, q⟩ := h
  rw [Vals.ref1 r]
  have g : SetG (strKind X.prog X.w) s.heap a S n := (I.hok a _ ha).1
  refine sorted_setS g (I.ok.hd hc) fun h' p ys tk dr sr nd hm hz => ?_
  have I0 : L2.Inv X pins σ H { s with heap := s.heap, gens := s.gens, drawn := dr, toks := s.toks } := I.call (ch := []) (Un.kept fun _ _ e => e) (I.hok.kept fun _ _ e => e) I.bare (fun _ z => nomatch z)
  obtain ⟨n1, J⟩ := laid_srt (tk := tk) I0 sr hz
  exact ⟨.ref p, _, J, rfl, q ys p sr.ord nd hm hz n1⟩
end
end Dx

set_option maxRecDepth 100000
set_option maxHeartbeats 4000000
/-! Dx6a: what is walked; the built-in functions and methods by values. -/
namespace Dx
open PySem PySem.Spec PyProof.Rows L2
section
variable {T : Tab} {X : Cx} {Xw : XW} {g : G} {m : List Addr} {L : Hh} {H : Hp} {σ : L2.St}
/-! ### items -/
theorem Sim.items (S : Sim g m L H) {w : W} {v : V} {ws : List W} (r : RelW g.K m H w v) (e : itemsOf L w = some ws) : ∃ a xs, v = .ref a ∧ (SqL g.K H a xs ∨ SqT g.K H a xs) ∧ RelWs g.K m H ws xs := by
  cases r with
  | @tup a xs ws' h hr =>
    simp only [itemsOf, Option.some.injEq] at e
    subst e
    exact ⟨a, xs, rfl, .inr h, hr⟩
  | @ref l a h =>
    simp only [itemsOf] at e
    split at e
    · rename_i zs ez
      cases e
      obtain ⟨xs, h1, h2⟩ := S.seq h (.inl ez)
      exact ⟨a, xs, rfl, .inl h1, h2⟩
    · rename_i zs ez
      cases e
      obtain ⟨xs, h1, h2⟩ := S.seq h (.inr ez)
      exact ⟨a, xs, rfl, .inl h1, h2⟩
    · cases e
  | _ => cases e
theorem Sim.itemsL (S : Sim g m L H) {l : Nat} {a : Addr} {ws : List W} (h : m[l]? = some a) (e : itemsOf L (.ref l) = some ws) : ∃ xs, SqL g.K H a xs ∧ RelWs g.K m H ws xs := by
  simp only [itemsOf] at e
  split at e
  · rename_i zs ez
    cases e
    exact S.seq h (.inl ez)
  · rename_i zs ez
    cases e
    exact S.seq h (.inr ez)
  · cases e
theorem rel_bl {bs : List Bool} {ws : List W} (e : ws.mapM blOf = some bs) {xs : List V} (r : RelWs g.K m H ws xs) : xs = bs.map V.bl := by
  have p := mapM_some e
  clear e
  induction p generalizing xs with
  | nil => cases r; rfl
  | @cons w b ws bs q p ih =>
    cases r with
    | cons h hr =>
      cases w <;> simp [blOf] at q
      subst q
      cases h
      rw [List.map_cons, ← ih hr]
theorem rel_int {bs : List Int} {ws : List W} (e : ws.mapM intOf = some bs) {xs : List V} (r : RelWs g.K m H ws xs) : xs = bs.map V.int := by
  have p := mapM_some e
  clear e
  induction p generalizing xs with
  | nil => cases r; rfl
  | @cons w b ws bs q p ih =>
    cases r with
    | cons h hr =>
      cases w <;> simp [intOf] at q
      subst q
      cases h
      rw [List.map_cons, ← ih hr]
def tx (x : Txt) : Str := ⟨x.toArray⟩
theorem rel_txt {bs : List Txt} {ws : List W} (e : ws.mapM txtOf = some bs) {xs : List V} (r : RelWs g.K m H ws xs) : xs = (bs.map tx).map V.str := by
  have p := mapM_some e
  clear e
  induction p generalizing xs with
  | nil => cases r; rfl
  | @cons w b ws bs q p ih =>
    cases r with
    | cons h hr =>
      cases w <;> simp [txtOf] at q
      subst q
      cases h
      rw [List.map_cons, List.map_cons, ← ih hr]
      rfl
theorem rels_int (is : List Int) : RelWs g.K m H (is.map W.int) (is.map V.int) := by
  induction is with
  | nil => exact .nil
  | cons i is ih => exact .cons (.int i) ih
theorem rels_txt (ts : List Txt) : RelWs g.K m H (ts.map W.str) ((ts.map tx).map V.str) := by
  induction ts with
  | nil => exact .nil
  | cons i is ih => exact .cons (.str i) ih

/-! ### what is walked -/
def SrcOk (g : G) (m : List Addr) (H : Hp) (s : Src) (J : L2.It) : Prop :=
  ∀ m' L' H', Ex0 m H m' H' → Sim g m' L' H' → ∀ i, (∀ w, srcAt L' i s = some (some w) → J.go i H' ∧ ∀ x H'', J.yld i H' x H'' → Ext m' H' m' H'' ∧ Sim g m' L' H'' ∧ RelW g.K m' H'' w x) ∧ (srcAt L' i s = some none → J.stop i H')
theorem src_seq {l : Nat} {a : Addr} (h : m[l]? = some a) : SrcOk g m H (.seq l) (Itl g.K a) := by
  intro m' L' H' e S i
  have h' := e.at_ _ _ h
  refine ⟨fun w hw => ?_, fun hw => ?_⟩
  · simp only [srcAt, Option.map_eq_some_iff] at hw
    obtain ⟨ws, e1, e2⟩ := hw
    obtain ⟨xs, h1, r1⟩ := S.itemsL h' e1
    obtain ⟨v, e3, r3⟩ := r1.get e2
    refine ⟨⟨xs, v, h1, e3⟩, fun x H'' y => ?_⟩
    obtain ⟨rfl, y⟩ := y
    have := y xs h1
    rw [e3] at this
    cases this
    exact ⟨Ext.refl _ _, S, r3⟩
  · simp only [srcAt, Option.map_eq_some_iff] at hw
    obtain ⟨ws, e1, e2⟩ := hw
    obtain ⟨xs, h1, r1⟩ := S.itemsL h' e1
    refine ⟨xs, h1, ?_⟩
    rw [← r1.length]
    exact List.getElem?_eq_none_iff.mp e2
theorem src_tup {a : Addr} {ws : List W} {xs : List V} (h : SqT g.K H a xs) (r : RelWs g.K m H ws xs) : SrcOk g m H (.vals ws) (Itt g.K a) := by
  intro m' L' H' e S i
  have h1 := e.sqT h
  have r1 := r.mono0 e
  refine ⟨fun w hw => ?_, fun hw => ?_⟩
  · simp only [srcAt, Option.some.injEq] at hw
    obtain ⟨v, e3, r3⟩ := r1.get hw
    refine ⟨⟨xs, v, h1, e3⟩, fun x H'' y => ?_⟩
    obtain ⟨rfl, y⟩ := y
    have := y xs h1
    rw [e3] at this
    cases this
    exact ⟨Ext.refl _ _, S, r3⟩
  · simp only [srcAt, Option.some.injEq] at hw
    refine ⟨xs, h1, ?_⟩
    rw [← r1.length]
    exact List.getElem?_eq_none_iff.mp hw
theorem src_str (x : Txt) : SrcOk g m H (.vals (signs x)) (Its ⟨x.toArray⟩) := by
  intro m' L' H' e S i
  refine ⟨fun w hw => ?_, fun hw => ?_⟩
  · simp only [srcAt, Option.some.injEq, signs, List.getElem?_map, Option.map_eq_some_iff] at hw
    obtain ⟨c, e1, e2⟩ := hw
    subst e2
    obtain ⟨hi, _⟩ := List.getElem?_eq_some_iff.mp e1
    refine ⟨by show i < x.toArray.size; simpa using hi, fun y H'' q => ?_⟩
    obtain ⟨rfl, c', e3, rfl⟩ := q
    have e4 : x[i]? = some c' := by simpa using e3
    rw [e1] at e4
    cases e4
    exact ⟨Ext.refl _ _, S, .str [c]⟩
  · simp only [srcAt, Option.some.injEq, signs, List.getElem?_map, Option.map_eq_none_iff] at hw
    show x.toArray.size ≤ i
    simpa using List.getElem?_eq_none_iff.mp hw
theorem src_rng (lo : Int) (n : Nat) : SrcOk g m H (.rng lo n) (Itr lo n) := by
  intro m' L' H' e S i
  refine ⟨fun w hw => ?_, fun hw => ?_⟩
  · simp only [srcAt, Option.some.injEq] at hw
    split at hw
    · rename_i hi
      cases hw
      refine ⟨hi, fun x H'' y => ?_⟩
      obtain ⟨rfl, rfl⟩ := y
      exact ⟨Ext.refl _ _, S, .int _⟩
    · cases hw
  · simp only [srcAt, Option.some.injEq] at hw
    split at hw
    · cases hw
    · rename_i hi
      exact Nat.le_of_not_lt hi
theorem src_enum {l : Nat} {a : Addr} (h : m[l]? = some a) : SrcOk g m H (.enum l) (Ite g.K a) := by
  intro m' L' H' e S i
  have h' := e.at_ _ _ h
  refine ⟨fun w hw => ?_, fun hw => ?_⟩
  · simp only [srcAt, Option.map_eq_some_iff] at hw
    obtain ⟨ws, e1, e2⟩ := hw
    obtain ⟨z, e2, e5⟩ := e2
    subst e5
    obtain ⟨xs, h1, r1⟩ := S.itemsL h' e1
    obtain ⟨v, e3, r3⟩ := r1.get e2
    refine ⟨⟨xs, v, h1, e3⟩, fun x H'' y => ?_⟩
    obtain ⟨p, y, rfl, hp, rfl, hy⟩ := y
    have := hy xs h1
    rw [e3] at this
    cases this
    obtain ⟨x1, S1⟩ := S.free (u := .tup [.int (i : Nat), v]) hp
    exact ⟨x1, S1, .tup (.inl (.inl upd_same)) (.cons (.int _) (.cons (r3.mono x1) .nil))⟩
  · simp only [srcAt, Option.map_eq_some_iff, Option.map_eq_none_iff] at hw
    obtain ⟨ws, e1, e2⟩ := hw
    obtain ⟨xs, h1, r1⟩ := S.itemsL h' e1
    refine ⟨xs, h1, ?_⟩
    rw [← r1.length]
    exact List.getElem?_eq_none_iff.mp e2
theorem src_zipL {l k : Nat} {a b : Addr} (h : m[l]? = some a) (hk : m[k]? = some b) : SrcOk g m H (.zipL l k) (Itz g.K a b) := by
  intro m' L' H' e S i
  have h' := e.at_ _ _ h
  have hk' := e.at_ _ _ hk
  refine ⟨fun w hw => ?_, fun hw => ?_⟩
  · simp only [srcAt] at hw
    split at hw
    · rename_i ws zs e1 e2
      simp only [Option.some.injEq] at hw
      split at hw
      · rename_i x y e3 e4
        cases hw
        obtain ⟨xs, h1, r1⟩ := S.itemsL h' e1
        obtain ⟨ys, h2, r2⟩ := S.itemsL hk' e2
        obtain ⟨v, e5, r5⟩ := r1.get e3
        obtain ⟨u, e6, r6⟩ := r2.get e4
        refine ⟨⟨xs, ys, v, u, h1, h2, e5, e6⟩, fun z H'' q => ?_⟩
        obtain ⟨p, v', u', rfl, hp, rfl, q1, q2⟩ := q
        have z1 := q1 xs h1
        rw [e5] at z1
        cases z1
        have z2 := q2 ys h2
        rw [e6] at z2
        cases z2
        obtain ⟨x1, S1⟩ := S.free (u := .tup [v, u]) hp
        exact ⟨x1, S1, .tup (.inl (.inl upd_same)) (.cons (r5.mono x1) (.cons (r6.mono x1) .nil))⟩
      · cases hw
    · cases hw
  · simp only [srcAt] at hw
    split at hw
    · rename_i ws zs e1 e2
      obtain ⟨xs, h1, r1⟩ := S.itemsL h' e1
      obtain ⟨ys, h2, r2⟩ := S.itemsL hk' e2
      refine ⟨xs, ys, h1, h2, ?_⟩
      rw [← r1.length, ← r2.length]
      simp only [Option.some.injEq] at hw
      split at hw
      · cases hw
      · rename_i n
        cases e3 : ws[i]? with
        | none => exact .inl (List.getElem?_eq_none_iff.mp e3)
        | some x =>
          cases e4 : zs[i]? with
          | none => exact .inr (List.getElem?_eq_none_iff.mp e4)
          | some y => exact absurd e4 (n x y e3)
    · cases hw
theorem src_zipT {a b : Addr} {ws zs : List W} {xs ys : List V} (h : SqT g.K H a xs) (hk : SqT g.K H b ys) (r : RelWs g.K m H ws xs) (rk : RelWs g.K m H zs ys) : SrcOk g m H (.zipT ws zs) (RZ.ItzT g.K a b) := by
  intro m' L' H' e S i
  have h1 := e.sqT h
  have h2 := e.sqT hk
  have r1 := r.mono0 e
  have r2 := rk.mono0 e
  refine ⟨fun w hw => ?_, fun hw => ?_⟩
  · simp only [srcAt, Option.some.injEq] at hw
    split at hw
    · rename_i x y e3 e4
      cases hw
      obtain ⟨v, e5, r5⟩ := r1.get e3
      obtain ⟨u, e6, r6⟩ := r2.get e4
      refine ⟨⟨xs, ys, v, u, h1, h2, e5, e6⟩, fun z H'' q => ?_⟩
      obtain ⟨p, v', u', rfl, hp, rfl, q1, q2⟩ := q
      have z1 := q1 xs h1
      rw [e5] at z1
      cases z1
      have z2 := q2 ys h2
      rw [e6] at z2
      cases z2
      obtain ⟨x1, S1⟩ := S.free (u := .tup [v, u]) hp
      exact ⟨x1, S1, .tup (.inl (.inl upd_same)) (.cons (r5.mono x1) (.cons (r6.mono x1) .nil))⟩
    · cases hw
  · simp only [srcAt, Option.some.injEq] at hw
    refine ⟨xs, ys, h1, h2, ?_⟩
    rw [← r1.length, ← r2.length]
    split at hw
    · cases hw
    · rename_i n
      cases e3 : ws[i]? with
      | none => exact .inl (List.getElem?_eq_none_iff.mp e3)
      | some x =>
        cases e4 : zs[i]? with
        | none => exact .inr (List.getElem?_eq_none_iff.mp e4)
        | some y => exact absurd e4 (n x y e3)

/-! ### sorting -/
theorem insI_perm (x : Int) (xs : List Int) : (insI x xs).Perm (x :: xs) := by
  induction xs with
  | nil => exact List.Perm.refl _
  | cons y ys ih =>
    simp only [insI]
    split
    · exact List.Perm.refl _
    · exact (List.Perm.cons y ih).trans (List.Perm.swap x y ys)
theorem sortI_perm (xs : List Int) : (sortI xs).Perm xs := by
  induction xs with
  | nil => exact List.Perm.refl _
  | cons x xs ih => exact (insI_perm x _).trans (List.Perm.cons x ih)
theorem insI_sorted {x : Int} {xs : List Int} (h : xs.Pairwise (· ≤ ·)) : (insI x xs).Pairwise (· ≤ ·) := by
  induction xs with
  | nil => simp [insI]
  | cons y ys ih =>
    have h0 := h
    rw [List.pairwise_cons] at h
    simp only [insI]
    split
    · rename_i c
      have c := of_decide_eq_true c
      refine List.pairwise_cons.mpr ⟨fun z hz => ?_, h0⟩
      rcases List.mem_cons.mp hz with e | e
      · rw [e]; exact c
      · exact Int.le_trans c (h.1 z e)
    · rename_i c
      have c : ¬ x ≤ y := fun q => c (decide_eq_true q)
      refine List.pairwise_cons.mpr ⟨fun z hz => ?_, ih h.2⟩
      rcases List.mem_cons.mp ((insI_perm x ys).mem_iff.mp hz) with e | e
      · rw [e]; omega
      · exact h.1 z e
theorem sortI_sorted (xs : List Int) : (sortI xs).Pairwise (· ≤ ·) := by
  induction xs with
  | nil => exact .nil
  | cons x xs ih => exact insI_sorted ih
theorem uniq_of {α : Type} {r : α → α → Prop} (anti : ∀ a b, r a b → r b a → a = b) : ∀ {xs ys : List α}, xs.Perm ys → xs.Pairwise r → ys.Pairwise r → xs = ys
  | [], ys, p, _, _ => (List.nil_perm.mp p).symm
  | x :: xs, [], p, _, _ => by simpa using p.length_eq
  | x :: xs, y :: ys, p, hx, hy => by
    rw [List.pairwise_cons] at hx hy
    have e : x = y := by
      have m1 : x ∈ y :: ys := p.mem_iff.mp (by simp)
      have m2 : y ∈ x :: xs := p.mem_iff.mpr (by simp)
      rcases List.mem_cons.mp m1 with e | e
      · exact e
      · rcases List.mem_cons.mp m2 with e2 | e2
        · exact e2.symm
        · exact anti _ _ (hx.1 _ e2) (hy.1 _ e)
    subst e
    rw [uniq_of anti (List.Perm.cons_inv p) hx.2 hy.2]
theorem sortI_eq {xs ys : List Int} (p : ys.Perm xs) (h : ys.Pairwise (· ≤ ·)) : ys = sortI xs :=
  uniq_of (fun _ _ => Int.le_antisymm) (p.trans (sortI_perm xs).symm) h (sortI_sorted xs)
theorem lt_irr : ∀ x : Txt, ltCps x x = false
  | [] => rfl
  | a :: x => by simp [ltCps, lt_irr x]
theorem lt_tri : ∀ x y : Txt, ltCps x y = false → ltCps y x = false → x = y
  | [], [], _, _ => rfl
  | [], _ :: _, h, _ => by simp [ltCps] at h
  | _ :: _, [], _, h => by simp [ltCps] at h
  | a :: x, b :: y, h1, h2 => by
    simp only [ltCps, Bool.or_eq_false_iff, decide_eq_false_iff_not, Bool.and_eq_false_iff, beq_eq_false_iff_ne] at h1 h2
    have e : a = b := by omega
    subst e
    rw [lt_tri x y (by simpa using h1.2) (by simpa using h2.2)]
theorem lt_tr : ∀ x y z : Txt, ltCps x y = true → ltCps y z = true → ltCps x z = true
  | [], y, [], _, h => by
    cases y <;> simp [ltCps] at h
  | [], _, _ :: _, _, _ => rfl
  | _ :: _, [], _, h, _ => by simp [ltCps] at h
  | _ :: _, _ :: _, [], _, h => by simp [ltCps] at h
  | a :: x, b :: y, c :: z, h1, h2 => by
    simp only [ltCps, Bool.or_eq_true, decide_eq_true_eq, Bool.and_eq_true, beq_iff_eq] at h1 h2 ⊢
    rcases h1 with h1 | ⟨e1, h1⟩
    · rcases h2 with h2 | ⟨e2, h2⟩
      · left; omega
      · left; omega
    · rcases h2 with h2 | ⟨e2, h2⟩
      · left; omega
      · right; exact ⟨by omega, lt_tr x y z h1 h2⟩
theorem le_tr {x y z : Txt} (h1 : txtLe x y = true) (h2 : txtLe y z = true) : txtLe x z = true := by
  unfold txtLe at *
  simp only [Bool.not_eq_true'] at *
  cases e : ltCps z x with
  | false => rfl
  | true =>
    exfalso
    cases e2 : ltCps x y with
    | true => have := lt_tr _ _ _ e e2; rw [h2] at this; cases this
    | false =>
      have := lt_tri x y e2 h1
      subst this
      rw [h2] at e; cases e
theorem le_tot (x y : Txt) : txtLe x y = true ∨ txtLe y x = true := by
  unfold txtLe
  cases e : ltCps x y with
  | false => right; simp
  | true =>
    left
    cases e2 : ltCps y x with
    | false => rfl
    | true => have := lt_tr _ _ _ e e2; rw [lt_irr] at this; cases this
theorem le_anti {x y : Txt} (h1 : txtLe x y = true) (h2 : txtLe y x = true) : x = y := by
  unfold txtLe at *
  exact lt_tri x y (by simpa using h2) (by simpa using h1)
theorem insT_perm (x : Txt) (xs : List Txt) : (insT x xs).Perm (x :: xs) := by
  induction xs with
  | nil => exact List.Perm.refl _
  | cons y ys ih =>
    simp only [insT]
    split
    · exact List.Perm.refl _
    · exact (List.Perm.cons y ih).trans (List.Perm.swap x y ys)
theorem sortT_perm (xs : List Txt) : (sortT xs).Perm xs := by
  induction xs with
  | nil => exact List.Perm.refl _
  | cons x xs ih => exact (insT_perm x _).trans (List.Perm.cons x ih)
theorem insT_sorted {x : Txt} {xs : List Txt} (h : xs.Pairwise (fun a b => txtLe a b = true)) : (insT x xs).Pairwise (fun a b => txtLe a b = true) := by
  induction xs with
  | nil => simp [insT]
  | cons y ys ih =>
    have h0 := h
    rw [List.pairwise_cons] at h
    simp only [insT]
    split
    · rename_i c
      refine List.pairwise_cons.mpr ⟨fun z hz => ?_, h0⟩
      rcases List.mem_cons.mp hz with e | e
      · rw [e]; exact c
      · exact le_tr c (h.1 z e)
    · rename_i c
      refine List.pairwise_cons.mpr ⟨fun z hz => ?_, ih h.2⟩
      rcases List.mem_cons.mp ((insT_perm x ys).mem_iff.mp hz) with e | e
      · rw [e]; exact (le_tot x y).resolve_left c
      · exact h.1 z e
theorem sortT_sorted (xs : List Txt) : (sortT xs).Pairwise (fun a b => txtLe a b = true) := by
  induction xs with
  | nil => exact .nil
  | cons x xs ih => exact insT_sorted ih
theorem rising_chain : ∀ (p : Str) (r : List Str), risingS p r = true → ((p :: r).map (fun z => z.cps.toList)).Pairwise (fun a b => txtLe a b = true)
  | p, [], _ => by simp
  | p, x :: r, h => by
    simp only [risingS, Bool.and_eq_true] at h
    have ih := rising_chain x r h.2
    rw [List.map_cons, List.pairwise_cons]
    refine ⟨fun z hz => ?_, ih⟩
    rw [List.map_cons, List.pairwise_cons] at ih
    rcases List.mem_cons.mp hz with e | e
    · rw [e]; exact h.1
    · exact le_tr h.1 (ih.1 z e)
theorem sortT_eq {xs : List Txt} {ys : List Str} (p : ys.Perm (xs.map tx)) (h : sortedS ys = true) : ys = (sortT xs).map tx := by
  have e1 : ys.map (fun z => z.cps.toList) = sortT xs := by
    refine uniq_of (fun a b => le_anti) ?_ ?_ (sortT_sorted xs)
    · have q := p.map (fun z : Str => z.cps.toList)
      rw [List.map_map] at q
      have e : (fun z : Str => z.cps.toList) ∘ tx = id := by
        funext z
        simp [tx]
      rw [e, List.map_id] at q
      exact q.trans (sortT_perm xs).symm
    · cases ys with
      | nil => exact .nil
      | cons y ys => exact rising_chain y ys h
  rw [← e1, List.map_map]
  have e : tx ∘ (fun z : Str => z.cps.toList) = id := by
    funext z
    simp [tx]
  rw [e, List.map_id]
theorem joinT_eq (sep : Txt) : ∀ ts : List Txt, joinT sep ts = TL.joinL sep ts
  | [] => rfl
  | [_] => rfl
  | x :: y :: ts => by
    show x ++ (sep ++ joinT sep (y :: ts)) = _
    rw [joinT_eq sep (y :: ts)]
    rfl

/-! ### the built-in functions, methods -/
theorem sgn_tx (x : Txt) : sgn (tx x) = (x.map fun c => [c]).map tx := by simp [sgn, tx]
theorem sgn_rel (x : Txt) : RelWs g.K m H (signs x) ((sgn (tx x)).map V.str) := by
  rw [sgn_tx]
  have := rels_txt (g := g) (m := m) (H := H) (x.map fun c => [c])
  rw [List.map_map] at this
  exact this
theorem tx_inj {a b : Txt} (h : tx a = tx b) : a = b := by
  have := congrArg (fun z : Str => z.cps.toList) h
  simpa [tx] using this
theorem dedup_mem {α : Type} [DecidableEq α] {a : α} : ∀ {l : List α}, a ∈ dedup l ↔ a ∈ l
  | [] => Iff.rfl
  | x :: l => by
    unfold dedup
    have ih := dedup_mem (a := a) (l := l)
    split
    · rename_i hx
      rw [ih, List.mem_cons]
      constructor
      · exact .inr
      · rintro (rfl | h)
        · exact dedup_mem.mp hx
        · exact h
    · rw [List.mem_cons, List.mem_cons, ih]
theorem dedup_nodup {α : Type} [DecidableEq α] : ∀ l : List α, (dedup l).Nodup
  | [] => .nil
  | x :: l => by
    unfold dedup
    split
    · exact dedup_nodup l
    · rename_i hx
      exact List.nodup_cons.mpr ⟨hx, dedup_nodup l⟩
theorem one_of {xs : List V} {as : List W} {a : W} (r : RelWs g.K m H [a] xs) : ∃ x, xs = [x] ∧ RelW g.K m H a x := by
  cases r with
  | cons h hr => cases hr; exact ⟨_, rfl, h⟩
def biV : Bi → Value
  | .len => .builtin "len" | .absf => .builtin "abs" | .maxf => .builtin "max" | .minf => .builtin "min" | .allf => .builtin "all" | .anyf => .builtin "any" | .sortedf => .builtin "sorted" | .reprf => .builtin "repr" | .sumf => .builtin "sum"
  | .intf => .type "int" | .listf => .type "list" | .tuplef => .type "tuple" | .strf => .type "str" | .boolf => .type "bool"
theorem cr_ok (hc : X.calm = true) (b : Bi) : CallR X (biV b) (rOs (T.g X) Xw (callB b)) := by
  intro pins s σ H xs us Q I r h
  obtain ⟨σ', m, L, as, S, ra, h⟩ := h
  cases b with
  | len =>
    cases as with
    | nil => exact False.elim h
    | cons a as =>
      cases as with
      | cons a2 as => cases a <;> exact False.elim h
      | nil =>
        obtain ⟨x, rfl, rx⟩ := one_of (as := []) ra
        have key : ∀ ws, itemsOf L a = some ws → run (T.g X) Xw σ' (RelW X.K) (ret (.int ws.length)) m H L Q → wpAny (model X.prog X.w) X.A (call (biV .len) us) (EP X pins σ Q) X.xe s := fun ws e h => by
          obtain ⟨p, zs, rfl, hs, hr⟩ := S.items rx e
          refine call_len pins s σ H _ us Q I r ⟨_, zs.length, rfl, ?_, ?_⟩
          · rcases hs with hs | hs
            · exact .inl ⟨zs, hs, rfl⟩
            · exact .inr ⟨zs, hs, rfl⟩
          · rw [← hr.length]; exact run_val h S (.int _)
        cases a with
        | str z =>
          cases rx
          rcases run_if h with ⟨c, h⟩ | ⟨_, h⟩
          · exact call_len pins s σ H _ us Q I r ⟨_, z.length, rfl, ⟨by rw [str_len]; exact lenOk_le c, (str_len z).symm⟩, run_val h S (.int _)⟩
          · exact h.elim
        | tup ws => exact key ws rfl h
        | ref l =>
          have h : run (T.g X) Xw σ' (RelW X.K) (match itemsOf L (.ref l) with
            | some ws => ret (.int ws.length)
            | none => fail) m H L Q := h
          split at h
          · rename_i ws e; exact key ws e h
          · exact h.elim
        | _ => exact False.elim h
  | intf =>
    cases as with
    | nil => exact False.elim h
    | cons a as =>
      cases as with
      | cons a2 as => cases a <;> exact False.elim h
      | nil =>
        obtain ⟨x, rfl, rx⟩ := one_of (as := []) ra
        cases a <;> try exact False.elim h
        · cases rx; exact call_int1 pins s σ H _ us Q I r (.inr ⟨_, rfl, run_val h S (.int _)⟩)
        · cases rx; exact call_int1 pins s σ H _ us Q I r (.inl ⟨_, rfl, run_val h S (.int _)⟩)
  | allf =>
    cases as with
    | nil => exact False.elim h
    | cons a as =>
      cases as with
      | cons a2 as => cases a <;> exact False.elim h
      | nil =>
        cases a <;> try exact False.elim h
        rename_i l
        obtain ⟨x, rfl, rx⟩ := one_of (as := []) ra
        have h : run (T.g X) Xw σ' (RelW X.K) (match (itemsOf L (.ref l)).bind fun ws => ws.mapM blOf with
          | some bs => ret (.bl (bs.all id))
          | none => fail) m H L Q := h
        split at h
        · rename_i bs e
          obtain ⟨ws, e1, e2⟩ := Option.bind_eq_some_iff.mp e
          cases rx with
          | ref hl =>
            obtain ⟨zs, hs, hr⟩ := S.itemsL hl e1
            have ez := rel_bl e2 hr
            subst ez
            exact cr_all hc pins s σ H _ us Q I r ⟨_, bs, rfl, hs, run_val h S (.bl _)⟩
        · exact h.elim
  | anyf =>
    cases as with
    | nil => exact False.elim h
    | cons a as =>
      cases as with
      | cons a2 as => cases a <;> exact False.elim h
      | nil =>
        cases a <;> try exact False.elim h
        rename_i l
        obtain ⟨x, rfl, rx⟩ := one_of (as := []) ra
        have h : run (T.g X) Xw σ' (RelW X.K) (match (itemsOf L (.ref l)).bind fun ws => ws.mapM blOf with
          | some bs => ret (.bl (bs.any id))
          | none => fail) m H L Q := h
        split at h
        · rename_i bs e
          obtain ⟨ws, e1, e2⟩ := Option.bind_eq_some_iff.mp e
          cases rx with
          | ref hl =>
            obtain ⟨zs, hs, hr⟩ := S.itemsL hl e1
            have ez := rel_bl e2 hr
            subst ez
            exact cr_any hc pins s σ H _ us Q I r ⟨_, bs, rfl, hs, run_val h S (.bl _)⟩
        · exact h.elim
  | listf =>
    cases as with
    | nil => exact False.elim h
    | cons a as =>
      cases as with
      | cons a2 as => cases a <;> exact False.elim h
      | nil =>
        obtain ⟨x, rfl, rx⟩ := one_of (as := []) ra
        by_cases hs : ∃ z, a = .str z
        · obtain ⟨z, rfl⟩ := hs
          cases rx
          rcases run_if h with ⟨c, h⟩ | ⟨_, h⟩
          · exact cr_listTxt hc pins s σ H _ us Q I r ⟨_, rfl, by simpa using lenOk_le c, fun p hp => run_new h S (sgn_rel z) hp⟩
          · exact h.elim
        have h : run (T.g X) Xw σ' (RelW X.K) (match itemsOf L a with
          | some ws => alloc (.lst ws)
          | none => fail) m H L Q := by
          cases a <;> first | exact h | exact absurd ⟨_, rfl⟩ hs
        split at h
        · rename_i ws e
          obtain ⟨p, zs, rfl, hs, hr⟩ := S.items rx e
          exact call_list_of pins s σ H _ us Q I r ⟨p, zs, rfl, hs, fun l hl => run_new h S hr hl⟩
        · exact h.elim
  | tuplef =>
    cases as with
    | nil => exact False.elim h
    | cons a as =>
      cases as with
      | cons a2 as => cases a <;> exact False.elim h
      | nil =>
        obtain ⟨x, rfl, rx⟩ := one_of (as := []) ra
        by_cases hs : ∃ z, a = .str z
        · obtain ⟨z, rfl⟩ := hs
          cases rx
          rcases run_if h with ⟨c, h⟩ | ⟨_, h⟩
          · exact cr_tupleTxt hc pins s σ H _ us Q I r ⟨_, rfl, by simpa using lenOk_le c, fun p hp => run_tup h S (sgn_rel z) hp⟩
          · exact h.elim
        have h : run (T.g X) Xw σ' (RelW X.K) (match itemsOf L a with
          | some ws => ret (.tup ws)
          | none => fail) m H L Q := by
          cases a <;> first | exact h | exact absurd ⟨_, rfl⟩ hs
        split at h
        · rename_i ws e
          obtain ⟨p, zs, rfl, hs, hr⟩ := S.items rx e
          refine call_tuple_of pins s σ H _ us Q I r ⟨p, zs, rfl, ?_⟩
          rcases hs with hs | hs
          · exact .inl ⟨hs, fun l hl => run_tup h S hr hl⟩
          · exact .inr ⟨hs, run_val h S (.tup hs hr)⟩
        · exact h.elim
  | sortedf =>
    cases as with
    | nil => exact False.elim h
    | cons a as =>
      cases as with
      | cons a2 as => cases a <;> exact False.elim h
      | nil =>
        obtain ⟨x, rfl, rx⟩ := one_of (as := []) ra
        by_cases hs : ∃ z, a = .str z
        · obtain ⟨z, rfl⟩ := hs
          cases rx
          rcases run_if h with ⟨c, h⟩ | ⟨_, h⟩
          · refine cr_sortedTxt hc pins s σ H _ us Q I r ⟨_, rfl, by simpa using lenOk_le c, fun ys p perm srt hp => ?_⟩
            have perm : ys.Perm ((z.map fun c => [c]).map tx) := by rw [← sgn_tx]; exact perm
            rw [sortT_eq perm srt]
            exact run_new h S (rels_txt _) hp
          · exact h.elim
        cases a <;> try first | exact False.elim h | exact absurd ⟨_, rfl⟩ hs
        rename_i l
        have h : run (T.g X) Xw σ' (RelW X.K) (match itemsOf L (.ref l) with
          | some ws => (match ws.mapM intOf with
            | some is => alloc (.lst ((sortI is).map .int))
            | none => (match ws.mapM txtOf with
              | some ts => if decide (ts.length < 64) then alloc (.lst ((sortT ts).map .str)) else fail
              | none => fail))
          | none => fail) m H L Q := h
        split at h
        · rename_i ws e
          cases rx with
          | ref hl =>
            obtain ⟨zs, hs, hr⟩ := S.itemsL hl e
            split at h
            · rename_i is e2
              have ez := rel_int e2 hr
              subst ez
              refine cr_sortedI pins s σ H _ us Q I r ⟨_, is, rfl, hs, fun ns' p perm srt hp => ?_⟩
              rw [sortI_eq perm srt]
              exact run_new h S (rels_int _) hp
            · split at h
              · rename_i ts e2
                have ez := rel_txt e2 hr
                subst ez
                rcases run_if h with ⟨c, h⟩ | ⟨_, h⟩
                · refine cr_sortedS pins s σ H _ us Q I r ⟨_, ts.map tx, rfl, hs, by rw [List.length_map]; exact of_decide_eq_true c, fun ys p perm srt hp => ?_⟩
                  rw [sortT_eq perm srt]
                  exact run_new h S (rels_txt _) hp
                · exact h.elim
              · exact h.elim
        · exact h.elim
  | _ =>
    cases as with
    | nil => exact False.elim h
    | cons a as => cases a <;> cases as <;> exact False.elim h
end
end Dx

set_option maxRecDepth 100000
set_option maxHeartbeats 4000000
/-! Dx6b: methods of texts and lists, isinstance, comprehensions: by values. -/
namespace Dx
open PySem PySem.Spec PyProof.Rows L2
section
variable {T : Tab} {X : Cx} {Xw : XW} {g : G} {m : List Addr} {L : Hh} {H : Hp} {σ : L2.St}
/-! ### methods -/
def bmT : Bm → String
  | .append => "list" | .pop => "list" | _ => "str"
def bmId : Bm → String
  | .join => "str.join" | .append => "list.append" | .islower => "str.islower" | .isalpha => "str.isalpha"
  | _ => ""
theorem bm_slot {b : Bm} (h : bmOk b = true) : PlainAttrs (bmT b) ∧ Slot (bmT b) (bmName b) (bmId b) ∧ typeOf (.builtin (bmId b)) = pure (.type "method_descriptor") := by
  cases b <;> simp [bmOk] at h
  · exact ⟨F.plainAttrs_str, F.slot_str_join, F.type_str_join⟩
  · exact ⟨F.plainAttrs_list, F.slot_list_append, F.type_list_append⟩
  · exact ⟨F.plainAttrs_str, F.slot_str_islower, F.type_str_islower⟩
  · exact ⟨F.plainAttrs_str, F.slot_str_isalpha, F.type_str_isalpha⟩
theorem rcv_ty {b : Bm} {w : W} {v : V} (S : Sim g m L H) (r : RelW g.K m H w v) (h : rcvOk L b w = true) : tyV g.K (bmT b) v H := by
  cases w with
  | str x => cases r; cases b <;> first | rfl | cases h
  | ref l =>
    cases r with
    | ref hl =>
      have key : (itemsOf L (.ref l)).isSome = true → ∃ xs, SqL g.K H _ xs := fun q => by
        obtain ⟨ws, e⟩ := Option.isSome_iff_exists.mp q
        obtain ⟨xs, h1, _⟩ := S.itemsL hl e
        exact ⟨xs, h1⟩
      cases b <;> first | exact .inl ⟨rfl, key h⟩ | cases h
  | _ => cases b <;> cases h
theorem mt_ok (b : Bm) : MtR X (bmId b) (rMs (T.g X) Xw (callM b)) := by
  intro pins s σ H x xs v us Q I rx rs h
  obtain ⟨σ', m, L, a, as, S, ra, ras, h⟩ := h
  cases b with
  | islower =>
    cases a <;> try exact False.elim h
    cases as with
    | cons _ _ => exact False.elim h
    | nil =>
      cases ra; cases ras
      exact mt_islower pins s σ H _ [] v us Q I rx rs ⟨_, rfl, rfl, trivial, run_val h S (.bl _)⟩
  | isalpha =>
    cases a <;> try exact False.elim h
    cases as with
    | cons _ _ => exact False.elim h
    | nil =>
      cases ra; cases ras
      exact mt_isalpha pins s σ H _ [] v us Q I rx rs ⟨_, rfl, rfl, trivial, run_val h S (.bl _)⟩
  | append =>
    cases a <;> try exact False.elim h
    rename_i l
    cases as with
    | nil => exact False.elim h
    | cons w as =>
      cases as with
      | cons _ _ => exact False.elim h
      | nil =>
        obtain ⟨y, rfl, ry⟩ := one_of (as := []) ras
        cases ra with
        | ref hl =>
          have h : run (T.g X) Xw σ' (RelW X.K) (match L[l]? with
            | some (.lst ws) => if decide (ws.length < sizeLine) then bnd (put l (.lst (ws ++ [w]))) fun _ => ret .non else fail
            | _ => fail) m H L Q := h
          split at h
          · rename_i ws e
            rcases run_if h with ⟨c, h⟩ | ⟨_, h⟩
            · obtain ⟨zs, h1, r1⟩ := S.lst hl e
              refine mt_append pins s σ H _ _ v us Q I rx rs ⟨_, zs, y, rfl, rfl, h1, by rw [← r1.length]; exact of_decide_eq_true c, ?_⟩
              obtain ⟨e1, S1⟩ := S.put (o' := .lst (ws ++ [w])) (u := .lst (zs ++ [y])) hl e rfl fun e1 => ⟨_, upd_same, (r1.append (.one ry)).mono e1⟩
              exact h _ _ _ e1 S1 .non
            · exact h.elim
          · exact h.elim
  | join =>
    cases a <;> try exact False.elim h
    rename_i sep
    cases as with
    | nil => exact False.elim h
    | cons w as =>
      cases as with
      | cons _ _ => exact False.elim h
      | nil =>
        obtain ⟨y, rfl, ry⟩ := one_of (as := []) ras
        cases ra
        have h : run (T.g X) Xw σ' (RelW X.K) (match (itemsOf L w).bind fun ws => ws.mapM txtOf with
          | some ts => if decide ((ts.map List.length).sum + ts.length * sep.length ≤ 16777216) then ret (.str (joinT sep ts)) else fail
          | none => fail) m H L Q := h
        split at h
        · rename_i ts e
          rcases run_if h with ⟨c, h⟩ | ⟨_, h⟩
          · obtain ⟨ws, e1, e2⟩ := Option.bind_eq_some_iff.mp e
            obtain ⟨p, zs, rfl, hs, hr⟩ := S.items ry e1
            have ez := rel_txt e2 hr
            subst ez
            have c := of_decide_eq_true c
            refine mt_join pins s σ H _ _ v us Q I rx rs ⟨_, p, ts.map tx, rfl, rfl, hs, ?_, ?_⟩
            · have e3 : (ts.map tx).map (·.length) = ts.map List.length := SX.lens ts
              rw [e3, List.length_map, str_len]
              exact c
            · have e4 : Txt.join (⟨sep.toArray⟩ : Str) (ts.map tx) = ⟨(joinT sep ts).toArray⟩ := by rw [joinT_eq]; exact SX.join_S sep ts
              rw [e4]
              exact run_val h S (.str _)
          · exact h.elim
        · exact h.elim
  | _ => cases a <;> cases as <;> exact False.elim h
/-! ### isinstance -/
def nmAll : List String := ["NoneType", "bool", "int", "str", "tuple", "list", "dict"]
theorem kit_nm : ∀ a ∈ nmAll, ∀ b ∈ tyNames, kitB a b = some (a == b || (a == "bool" && b == "int")) := by decide +kernel
theorem boot_nm : ∀ b ∈ tyNames, bootBuiltins (Str.ofString b) = some (.type b) := by decide +kernel
theorem ty_ne : ∀ b ∈ tyNames, Str.ofString b ≠ ("__name__" : Str) ∧ (Str.ofString b == ("__debug__" : Str)) = false := by decide +kernel
theorem tyx_of {w : W} {v : V} {a : String} (S : Sim g m L H) (r : RelW g.K m H w v) (e : typeNm L w = some a) : TyX g.K H v (.type a) ∧ a ∈ nmAll := by
  cases w with
  | non => cases r; cases e; exact ⟨.base .non, by decide⟩
  | bl b => cases r; cases e; exact ⟨.base (.bl _), by decide⟩
  | int i => cases r; cases e; exact ⟨.base (.int _), by decide⟩
  | str x => cases r; cases e; exact ⟨.base (.str _), by decide⟩
  | tup ws =>
    cases e
    refine ⟨?_, by decide⟩
    cases r with
    | tup h hr =>
      rcases h with (h | ⟨o, h⟩) | ⟨o, its, n, h1, h2, _⟩
      · exact .base (.tup h)
      · exact .fTuple h
      · exact .kTuple h1 h2
  | ref l =>
    cases r with
    | @ref _ p hl =>
      have e : (match L[l]? with
        | some (.lst _) => some "list"
        | some (.ro _) => some "list"
        | some (.dct _) => some "dict"
        | _ => none) = some a := e
      split at e
      · rename_i ws ew
        cases e
        obtain ⟨xs, h, _⟩ := S.ob l p _ hl ew
        exact ⟨.base (.lst h), by decide⟩
      · rename_i ws ew
        cases e
        obtain ⟨o, xs, h, _⟩ := S.ob l p _ hl ew
        exact ⟨.base (.frz h), by decide⟩
      · rename_i ws ew
        cases e
        refine ⟨?_, by decide⟩
        rcases S.ob l p _ hl ew with ⟨qs, h, _⟩ | ⟨qs, h, _⟩
        · exact .base (.dK h)
        · exact .base (.dT h)
      · cases e
  | exn c fs => cases e
  | clo k cs => cases e
  | scr ws => cases e

/-! ### comprehensions -/
theorem wipe_get {σ : L2.St} {i : Nat} : ∀ vs : List Nat, (wipe σ vs)[i]? = if i ∈ vs then (if i < σ.length then some none else none) else σ[i]?
  | [] => by simp [wipe]
  | v :: vs => by
    unfold wipe
    by_cases hv : v = i
    · subst hv
      rw [if_pos (by simp)]
      split
      · exact List.getElem?_set_self (by rw [wipe_length]; assumption)
      · rename_i h
        rw [List.getElem?_eq_none (by rw [List.length_set, wipe_length]; omega)]
    · rw [List.getElem?_set_ne hv, wipe_get vs]
      have : (i ∈ v :: vs) ↔ i ∈ vs := by simp [Ne.symm hv]
      simp only [this]
theorem wipeF_length (ρ : Fr) : ∀ vs : List Nat, (wipeF ρ vs).length = ρ.length
  | [] => rfl
  | v :: vs => by unfold wipeF; rw [List.length_set, wipeF_length ρ vs]
theorem wipeF_get {ρ : Fr} {i : Nat} : ∀ vs : List Nat, (wipeF ρ vs)[i]? = if i ∈ vs then (if i < ρ.length then some none else none) else ρ[i]?
  | [] => by simp [wipeF]
  | v :: vs => by
    unfold wipeF
    by_cases hv : v = i
    · subst hv
      rw [if_pos (by simp)]
      split
      · exact List.getElem?_set_self (by rw [wipeF_length]; assumption)
      · rename_i h
        rw [List.getElem?_eq_none (by rw [List.length_set, wipeF_length]; omega)]
    · rw [List.getElem?_set_ne hv, wipeF_get vs]
      have : (i ∈ v :: vs) ↔ i ∈ vs := by simp [Ne.symm hv]
      simp only [this]
theorem RelF.wipe {K : PySem.W.Frag} {ρ : Fr} (F : RelF K m H ρ σ) (vs : List Nat) : RelF K m H (wipeF ρ vs) (wipe σ vs) := by
  refine ⟨by rw [wipeF_length, wipe_length, F.len], fun i w h => ?_⟩
  rw [wipeF_get] at h
  rw [wipe_get]
  split at h
  · split at h <;> cases h
  · rename_i hv
    rw [if_neg hv]
    exact F.at_ i w h
theorem wipe_same {σ2 : L2.St} {vs : List Nat} (hl : σ2.length = σ.length) (h : ∀ i, i ∉ vs → σ2[i]? = (L2.wipe σ vs)[i]?) : L2.wipe σ2 vs = L2.wipe σ vs := by
  refine List.ext_getElem? fun i => ?_
  rw [wipe_get, wipe_get, hl]
  split
  · rfl
  · rename_i hv
    have := h i hv
    rw [wipe_get, if_neg hv] at this
    exact this
theorem run_noX {α β : Type} {R : List Addr → Hp → α → β → Prop} {Q : β → Hp → Prop} {Xw' : XW} {σ' : L2.St} {c : M α} (h : run g Xw σ R (noX c) m H L Q) : run g Xw' σ' R c m H L Q := by
  unfold run at h ⊢
  rw [wp_noX] at h
  exact wp_mono h (fun _ _ q => q) fun _ _ q => q.elim
/-- what a source's item is, statically -/
theorem run_bnd_at {α γ β δ : Type} {R : List Addr → Hp → α → β → Prop} {R' : List Addr → Hp → γ → δ → Prop} {Q : β → Hp → Prop} {c : M γ} {f : γ → M α} {w : γ} {L1 : Hh} (h : run g Xw σ R (bnd c f) m H L Q) (e : c L = .ok w L1) :
    run g Xw σ R' c m H L (fun d H1 => ∃ m1, Ext m H m1 H1 ∧ Sim g m1 L1 H1 ∧ R' m1 H1 w d ∧ run g Xw σ R (f w) m1 H1 L1 Q) := by
  unfold run at h ⊢
  rw [wp_bnd] at h
  have hx := h
  unfold wp at h ⊢
  rw [e] at h ⊢
  intro m1 H1 b e1 s1 r1
  refine ⟨m1, e1, s1, r1, ?_⟩
  exact wp_mono h (fun _ _ q m' H' b e' s r => q m' H' b (e1.trans e') s r) fun _ _ q m' H' cls d e' s r => q m' H' cls d (e1.trans e') s r
theorem run_bnd_ex {α γ β δ : Type} {R : List Addr → Hp → α → β → Prop} {R' : List Addr → Hp → γ → δ → Prop} {Q : β → Hp → Prop} {Q' : δ → Hp → Prop} {c : M γ} {f : γ → M α} {w : W} {L1 : Hh} (h : run g Xw σ R (bnd c f) m H L Q) (e : c L = .exc w L1) :
    run g Xw σ R' c m H L Q' := by
  unfold run at h ⊢
  rw [wp_bnd] at h
  unfold wp at h ⊢
  rw [e] at h ⊢
  exact h
theorem run_bnd_bad {α γ β : Type} {R : List Addr → Hp → α → β → Prop} {Q : β → Hp → Prop} {c : M γ} {f : γ → M α} (h : run g Xw σ R (bnd c f) m H L Q) (e : c L = .bad) : False := by
  unfold run at h
  rw [wp_bnd] at h
  unfold wp at h
  rw [e] at h
  exact h
end
end Dx

set_option maxRecDepth 100000
set_option maxHeartbeats 4000000
/-! Dx6: the run of an expression is as the evaluator says. -/
namespace Dx
open PySem PySem.Spec PyProof.Rows L2

/-- a function at f that does what the target t does -/
def CallableP (T : Tab) (C : Env) (P : Program) (w : World) (K : PySem.W.Frag) (mg : Str → Option Value) (base : Heap) (d : Nat) (t : Nat) (f : Addr) (npos : Nat) (kws : List Str) : Prop :=
  ∀ (A : Around) (outer : List PySem.Env) (s : Shared) (H : Hp) (us ws : List Value) (vs zs : List V) (Q : VK) (E : XK) (m : List Addr) (L : Hh) (as : List W) (σ : L2.St), Room d A → Env0 P w K mg base A outer s H →
    Vals vs us → Vals zs ws → us.length = npos → ws.length = kws.length → Sim ⟨P, w, K, mg, base, T.CN, T.FN, T.rx⟩ m L H → RelWs K m H as (vs ++ zs) → run ⟨P, w, K, mg, base, T.CN, T.FN, T.rx⟩ (fun _ _ cls d H' => E cls d H') σ (RelW K) (C.call t as) m H L Q →
    codeAny (model P w) A (.call (.ref f) ⟨us, kws.zip ws⟩) (CR (L2.CX P w) outer P w H s Q E) s
abbrev Callable (T : Tab) (C : Env) (X : Cx) (d : Nat) (t : Nat) (f : Addr) (npos : Nat) (kws : List Str) : Prop := CallableP T C X.prog X.w X.K X.mg X.base d t f npos kws
structure Ok (T : Tab) (p : Pg) (C : Env) (c : Dc) (X : Cx) (d : Nat) : Prop where
  N : X.N = c.N
  sc : X.env.scope = c.sc
  nd : c.N.Nodup
  calm : X.calm = true
  room : Room d X.A
  pg : PgOk p X.mg
  fn : ∀ y ∈ c.asn, locB c.sc y = true → X.fn y = true ∨ c.sc.names.lookup y = some .local
  tg : ∀ t g, p.tg[t]? = some g → ∃ f, X.mg g.name = some (.ref f) ∧ PySem.W.keepIn X.K (.ref f) = true ∧ Callable T C X d t f g.npos g.kws
section
variable {T : Tab} {p : Pg} {C : Env} {c : Dc} {X : Cx} {d : Nat} {Wx : WX}
theorem Ok.vis (O : Ok T p C c X d) {y : Str} (h : visB c.sc y = true) : Vis X.env.scope y := by
  rw [O.sc]
  unfold visB at h
  unfold Vis
  split at h <;> first | (rename_i e; simp [e]; done) | cases h
theorem Ok.loc (O : Ok T p C c X d) {y : Str} (h : locB c.sc y = true) : L2.Loc X.env.scope y := by
  rw [O.sc]
  unfold locB at h
  unfold L2.Loc
  split at h <;> first | (rename_i e; simp [e]; done) | cases h
theorem Ok.gl (O : Ok T p C c X d) {y : Str} (h : glB c.sc y = true) : Gl X y ∧ (y == ("__debug__" : Str)) = false := by
  unfold glB at h
  split at h
  · rename_i e
    refine ⟨?_, ?_⟩
    · show X.env.scope.names.lookup y = _
      rw [O.sc]
      exact e
    · simp only [bne] at h
      simpa using h
  · cases h
theorem Ok.fnl (O : Ok T p C c X d) {y : Str} (ha : y ∈ c.asn) (h : locB c.sc y = true) : X.fn y = true ∨ X.env.scope.names.lookup y = some .local := by
  rw [O.sc]
  exact O.fn y ha h
theorem Ok.blt (O : Ok T p C c X d) {y n : Str} (h : bltB p c.sc y n = true) : y = n ∧ Gl X y ∧ X.mg y = none ∧ (y == ("__debug__" : Str)) = false := by
  simp only [bltB, Bool.and_eq_true, decide_eq_true_eq] at h
  obtain ⟨⟨⟨h1, h2⟩, h3⟩, h4⟩ := h
  obtain ⟨g1, g2⟩ := O.gl h2
  exact ⟨h1, g1, O.pg.free _ (List.contains_iff_mem.mp h3), g2⟩
abbrev WF : WX := fun _ _ _ _ => False
/-- a comprehension's block -/
abbrev Dc.blk (c : Dc) (scope : Scope) (own : List (Str × Nat)) : Dc := ⟨c.N, relS scope c.sc, own.map (·.1)⟩
theorem Ok.blk (O : Ok T p C c X d) {scope : Scope} {own : List (Str × Nat)} (hown : (own.all fun q => match scope.names.lookup q.1 with
    | some .local => true
    | some .cell => true
    | _ => false) = true) (s : Shared) (H : Hp) (Cc : Addr) (cl : List (Str × Addr)) (fp : List Addr) : Ok T p C (c.blk scope own) (X.blk s H scope (compEnvC scope cl Cc X.env) fp) d := by
  refine ⟨O.N, ?_, O.nd, O.calm, O.room, O.pg, fun y hy h => ?_, O.tg⟩
  · show relS scope X.env.scope = relS scope c.sc
    rw [O.sc]
  · obtain ⟨q, hq, rfl⟩ := List.mem_map.mp hy
    have := (List.all_eq_true.mp hown) q hq
    split at this
    · rename_i e
      right
      have z := lookup_relabel_local (env := X.env) e
      have z2 : (relS scope X.env.scope).names.lookup q.1 = some .local := z
      rw [O.sc] at z2
      exact z2
    · rename_i e
      left
      show (scope.names.lookup q.1 == some .cell) = true
      rw [e]
      rfl
    · cases this

/-- constants -/
theorem pe_const {x : Ex} {e : Expr} {v : V} {w : W} (he : ∀ ρ, evE C ρ x = ret w) (hr : ∀ m H, RelW X.K m H w v) (h : PE X e (tC v)) : PE X e (tE T C Wx X x) :=
  PE_imp h fun σ H Q ⟨m, ρ, L, S, F, q⟩ => by
    have q : run (T.g X) (ofW Wx) σ (RelW X.K) (evE C ρ x) m H L Q := q
    rw [he] at q
    exact run_val q S (hr m H)
theorem tOp_of {f : W → W → M W} {a b : Ex} {σ : L2.St} {H : Hp} {Q : VK} (h : tM (T.g X) Wx (RelW X.K) (fun ρ => bnd (evE C ρ a) fun x => bnd (evE C ρ b) fun y => f x y) σ H Q) :
    tOp (rO2 (T.g X) (ofW Wx) f) (tE T C Wx X a) (tE T C Wx X b) σ H Q :=
  (tM_bnd (R' := RelW X.K) h).imp fun v H1 ⟨m1, ρ, L1, x, S1, F1, r1, q1⟩ => ⟨m1, ρ, L1, S1, F1, (run_bnd (R' := RelW X.K) q1).imp fun v2 H2 ⟨m2, L2, y, e2, S2, r2, q2⟩ => ⟨σ, m2, L2, x, y, S2, r1.mono e2, r2, q2⟩⟩
theorem ixplain {x : Ex} {e : Expr} (h : chkE p c x e = true) : PlainIx e := by
  intro o i
  cases e <;> first | rfl | (rw [chk_slice] at h; cases h)
theorem markE {x : Ex} {e : Expr} (h : chkE p c x e = true) (op : CmpOp) : behindInMarks op e = false := by
  cases e <;> first | rfl | (exfalso; revert h; cases x <;> simp [chkE])
theorem tOp_tru {σ : L2.St} {H : Hp} {x : Ex} {Q : Bool → Hp → Prop} (h : tM (T.g X) Wx RB (fun ρ => bnd (evE C ρ x) truth) σ H Q) : tE T C Wx X x σ H fun v H1 => rOT (T.g X) (ofW Wx) truth v H1 Q :=
  (tM_bnd (R' := RelW X.K) h).imp fun v H1 ⟨m1, ρ, L1, x, S1, F1, r1, q1⟩ => ⟨σ, m1, L1, x, S1, r1, q1⟩
theorem tOp_bv {σ : L2.St} {H : Hp} {x : Ex} {Q : Bool → Hp → Prop} (h : tM (T.g X) Wx RB (fun ρ => bnd (evE C ρ x) fun w => match w with
    | .bl b => ret b
    | _ => fail) σ H Q) : tE T C Wx X x σ H fun v H1 => ∃ k, v = .bl k ∧ Q k H1 :=
  (tM_bnd (R' := RelW X.K) h).imp fun v H1 ⟨m1, ρ, L1, w, S1, F1, r1, q1⟩ => by
    cases w <;> try exact False.elim q1
    cases r1
    exact ⟨_, rfl, run_ret (R := RB) q1 S1 rfl⟩

theorem kw_all {ks : List Keyword} {kws : List Str} (h : ks.map (·.arg) = kws.map some) (env : PySem.Env) (pos : Pos) : (backToKw pos (keywordEach ks env)).all (·.1.isSome) = true ∧ (backToKw pos (keywordEach ks env)).filterMap (·.1) = kws ∧ (backToKw pos (keywordEach ks env)).any (·.1.isNone) = false := by
  induction ks generalizing kws with
  | nil =>
    cases kws with
    | nil => exact ⟨rfl, rfl, rfl⟩
    | cons k kws => simp at h
  | cons k ks ih =>
    cases kws with
    | nil => simp at h
    | cons n kws =>
      simp only [List.map_cons, List.cons.injEq] at h
      obtain ⟨a, v, ps⟩ := k
      obtain ⟨h1, h2⟩ := h
      have h1 : a = some n := h1
      subst h1
      obtain ⟨i1, i2, i3⟩ := ih h2
      simp only [backToKw] at i1 i2 i3 ⊢
      refine ⟨?_, ?_, ?_⟩
      · simp only [keywordEach, List.map_cons, List.all_cons, Option.isSome_some, Bool.true_and]; exact i1
      · simp only [keywordEach, List.map_cons, List.filterMap_cons]; rw [i2]
      · simp only [keywordEach, List.map_cons, List.any_cons, Option.isNone_some, Bool.false_or]; exact i3
theorem chkEs_head {xs : List Ex} {es : List Expr} (h : chkEs p c xs es = true) (env : PySem.Env) : es = [] ∨ ∃ e rest, es = e :: rest ∧ starEach (e :: rest) env = (false, eval e env) :: starEach rest env := by
  cases es with
  | nil => exact .inl rfl
  | cons e es =>
    cases xs with
    | nil => simp [chkEs] at h
    | cons x xs =>
      simp only [chkEs, Bool.and_eq_true] at h
      exact .inr ⟨e, es, rfl, star_plain h.1 es env⟩
theorem chkEs_len : ∀ {xs : List Ex} {es : List Expr}, chkEs p c xs es = true → xs.length = es.length
  | [], es, h => by
    cases es with
    | nil => rfl
    | cons e es => simp [chkEs] at h
  | x :: xs, es, h => by
    cases es with
    | nil => simp [chkEs] at h
    | cons e es =>
      simp only [chkEs, Bool.and_eq_true] at h
      simp [chkEs_len h.2]
theorem wp_evEs_len {ρ : Fr} {E : W → Hh → Prop} : ∀ {xs : List Ex} {L : Hh} {Q : List W → Hh → Prop}, wp (evEs C ρ xs) L Q E → wp (evEs C ρ xs) L (fun a L' => Q a L' ∧ a.length = xs.length) E
  | [], L, Q, h => ⟨h, rfl⟩
  | x :: xs, L, Q, h => by
    simp only [evEs, wp_bnd, wp_ret] at h ⊢
    refine wp_mono h (fun a L1 q => ?_) fun _ _ q => q
    exact wp_mono (wp_evEs_len q) (fun b L2 ⟨q1, q2⟩ => ⟨q1, by simp [q2]⟩) fun _ _ q => q
theorem run_bnd_len {α β : Type} {g : G} {Xw : XW} {σ : L2.St} {R : List Addr → Hp → α → β → Prop} {m : List Addr} {H : Hp} {L : Hh} {Q : β → Hp → Prop} {ρ : Fr} {xs : List Ex} {f : List W → M α} (h : run g Xw σ R (bnd (evEs C ρ xs) f) m H L Q) :
    run g Xw σ (RelWs g.K) (evEs C ρ xs) m H L (fun d H1 => ∃ m1 L1 a, Ext m H m1 H1 ∧ Sim g m1 L1 H1 ∧ RelWs g.K m1 H1 a d ∧ a.length = xs.length ∧ run g Xw σ R (f a) m1 H1 L1 Q) := by
  unfold run at h ⊢
  rw [wp_bnd] at h
  refine wp_mono (wp_evEs_len h) (fun a L1 ⟨q, hl⟩ m1 H1 b e1 s1 r1 => ⟨m1, L1, a, e1, s1, r1, hl, ?_⟩) fun _ _ q => q
  exact wp_mono q (fun _ _ q m' H' b e' s r => q m' H' b (e1.trans e') s r) fun _ _ q m' H' cls d e' s r => q m' H' cls d (e1.trans e') s r
theorem tM_bnd_len {α β : Type} {g : G} {σ : L2.St} {R : List Addr → Hp → α → β → Prop} {H : Hp} {Q : β → Hp → Prop} {xs : List Ex} {f : Fr → List W → M α} (h : tM g Wx R (fun ρ => bnd (evEs C ρ xs) (f ρ)) σ H Q) :
    tM g Wx (RelWs g.K) (fun ρ => evEs C ρ xs) σ H (fun d H1 => ∃ m1 ρ L1 x, Sim g m1 L1 H1 ∧ RelF g.K m1 H1 ρ σ ∧ RelWs g.K m1 H1 x d ∧ x.length = xs.length ∧ run g (ofW Wx) σ R (f ρ x) m1 H1 L1 Q) :=
  let ⟨m, ρ, L, S, F, r⟩ := h
  ⟨m, ρ, L, S, F, (run_bnd_len r).imp fun d H1 ⟨m1, L1, x, e, S1, r1, hl, q⟩ => ⟨m1, ρ, L1, x, S1, F.mono e, r1, hl, q⟩⟩
/-- the call of a global function -/
theorem pe_target {t : Nat} {f : Addr} {npos : Nat} {kws : List Str} {y : Str} {ps pos : Pos} {es : List Expr} {ks : List Keyword} {xs ys : List Ex} (tk : Takes X Wx) (hr : Room d X.A) (g1 : Gl X y) (g2 : (y == ("__debug__" : Str)) = false) (f1 : X.mg y = some (.ref f)) (f2 : PySem.W.keepIn X.K (.ref f) = true)
    (f3 : Callable T C X d t f npos kws) (h3 : es.length = npos) (hlx : xs.length = es.length) (hly : ys.length = ks.length) (h4 : ks.map (·.arg) = kws.map some) (ha : PA X es (tA T C Wx X xs)) (hk : PK X ks (tA T C Wx X ys)) (hst : ∀ (env : PySem.Env) (pos : Pos), (backTo pos (starEach es env)).any (·.1) = false)
    (hhd : ∀ env, es = [] ∨ ∃ e rest, es = e :: rest ∧ starEach (e :: rest) env = (false, eval e env) :: starEach rest env) : PE X (.Call (.Name y ps) es ks pos) (tE T C Wx X (.call t xs ys)) := by
  refine ⟨fun pins s σ H Q I q => ?_⟩
  refine wpAny_Call_Name_kw (ld_glob I g1 f1 ?_ g2)
  obtain ⟨k1, k2, k3⟩ := kw_all h4 X.env pos
  have fin : ∀ (us : List Value) (s1 : Shared) (vs : List V) (H1 : Hp), L2.Inv X pins σ H1 s1 → Vals vs us → us.length = npos → (∃ m1 ρ L1 ws, Sim (T.g X) m1 L1 H1 ∧ RelF X.K m1 H1 ρ σ ∧ RelWs X.K m1 H1 ws vs ∧ run (T.g X) (ofW Wx) σ (RelW X.K) (bnd (evEs C ρ ys) fun zs => C.call t (ws ++ zs)) m1 H1 L1 Q) →
      wpAny (model X.prog X.w) X.A (evalAll ((backToKw pos (keywordEach ks X.env)).map (·.2))) (fun zs s2 => X.K.In s2.heap ∧ wpAny (model X.prog X.w) X.A (call (.ref f) us (((backToKw pos (keywordEach ks X.env)).filterMap (·.1)).zip zs)) (EP X pins σ Q) X.xe s2) X.xe s1 := by
    intro us s1 vs H1 I1 r1 hl ⟨m1, ρ, L1, ws, S1, F1, rw1, q1⟩
    refine thn (hk.run pos pins s1 σ H1 _ I1 ⟨m1, ρ, L1, S1, F1, run_bnd_len q1⟩) fun zs s2 ⟨zv, H2, I2, r2, m2, L2', as, e2, S2, rz, hla, q2⟩ => ⟨I2.kIn, ?_⟩
    rw [k2]
    have hz : zs.length = kws.length := by
      have e3 := congrArg List.length h4
      simp only [List.length_map] at e3
      have e4 : zs.length = zv.length := r2.length.symm
      have e5 := rz.length
      omega
    have cal := f3 X.A X.stack s2 H2 us zs vs zv Q (WE Wx σ) m2 L2' (ws ++ as) σ hr I2.env0 r1 r2 hl hz S2 ((rw1.mono e2).append rz) q2
    refine wpAny_call (codeAny_mono cal fun r s' hq => ?_)
    cases r with
    | error e => exact passAt tk σ pins H2 s2 e s' I2 hq
    | ok fl =>
      cases fl with
      | ret u => exact I2.after hq
      | next => exact False.elim hq
      | brk => exact False.elim hq
      | cont => exact False.elim hq
  have q := tM_bnd_len q
  rcases hhd X.env with rfl | ⟨e, rest, rfl, he⟩
  · refine PySem.W.callWith_KW0 (h₀ := X.base) I.ok.mod.kin f2 k1 ?_ (by rw [k3]; rfl)
    have hx0 : xs = [] := by
      cases xs with
      | nil => rfl
      | cons x xs => simp at hlx
    subst hx0
    obtain ⟨m, ρ, L, S, F, q⟩ := q
    obtain ⟨m1, ρ1, L1, ws, S1, F1, r1, hl1, q1⟩ := run_ret (R := RelWs X.K) q S .nil
    exact fin [] s [] H I .nil h3 ⟨m1, ρ1, L1, ws, S1, F1, r1, q1⟩
  · refine PySem.W.callWith_KW (h₀ := X.base) I.ok.mod.kin f2 k1 (thn (ha.run pos pins s σ H _ I q) fun us s1 ⟨vs, H1, I1, r, m1, ρ, L1, ws, S1, F1, r1, hl1, q1⟩ => ?_) (by rw [k3, hst]; rfl) he
    refine fin us s1 vs H1 I1 r ?_ ⟨m1, ρ, L1, ws, S1, F1, r1, q1⟩
    have e1 := r.length
    have e2 := r1.length
    omega


/-! ### built-in functions, methods -/
theorem biV_kind (b : Bi) : (∃ id, biV b = .builtin id) ∨ ∃ t, biV b = .type t := by cases b <;> first | exact .inl ⟨_, rfl⟩ | exact .inr ⟨_, rfl⟩
theorem bi_boot (b : Bi) : bootBuiltins (biName b) = some (biV b) := by cases b <;> decide +kernel
theorem bi_ne (b : Bi) : biName b ≠ ("__name__" : Str) := by cases b <;> decide +kernel
theorem pe_bi (O : Ok T p C c X d) {b : Bi} {y : Str} {ps pos : Pos} {xs : List Ex} {e : Expr} {es : List Expr} (hb : bltB p c.sc y (biName b) = true) (hx : chkEs p c xs (e :: es) = true) (ha : PA X (e :: es) (tA T C Wx X xs)) :
    PE X (.Call (.Name y ps) (e :: es) [] pos) (tE T C Wx X (.bi b xs)) := by
  obtain ⟨rfl, g1, g2, g3⟩ := O.blt hb
  have hs : starEach (e :: es) X.env = (false, eval e X.env) :: starEach es X.env := by
    cases xs with
    | nil => simp [chkEs] at hx
    | cons x xs => simp only [chkEs, Bool.and_eq_true] at hx; exact star_plain hx.1 es X.env
  have hpl : (backTo pos (starEach es X.env)).any (·.1) = false := by
    cases xs with
    | nil => simp [chkEs] at hx
    | cons x xs => simp only [chkEs, Bool.and_eq_true] at hx; exact chkEs_star hx.2 X.env pos
  have cr := cr_ok (T := T) (Xw := ofW Wx) O.calm b
  have bt := bi_boot b
  have fin : ∀ σ H Q, tE T C Wx X (.bi b xs) σ H Q → tCB (rOs (T.g X) (ofW Wx) (callB b)) (tA T C Wx X xs) σ H Q := fun σ H Q q =>
    (tM_bnd (R' := RelWs X.K) q).imp fun vs H1 ⟨m1, ρ, L1, ws, S1, F1, r1, q1⟩ => ⟨σ, m1, L1, ws, S1, r1, q1⟩
  rcases biV_kind b with ⟨id, e1⟩ | ⟨id, e1⟩
  · rw [e1] at cr bt
    exact PE_imp (pe_callB cr g1 g2 bt ha (bi_ne b) g3 hs hpl) fin
  · rw [e1] at cr bt
    exact PE_imp (pe_callTy cr g1 g2 bt ha (bi_ne b) g3 hs hpl) fin
theorem noSup_base {o : Expr} (h : noSup o = true) (n : Str) (env : PySem.Env) (w : Sem Value) : attributeBase o n env w = w := by
  cases o <;> try rfl
  rename_i f as ks ps
  cases f <;> try rfl
  cases as with
  | cons a as => rfl
  | nil =>
    cases ks with
    | cons a as => rfl
    | nil => simp [noSup] at h
theorem pe_met {b : Bm} {apos cpos : Pos} {l : Expr} {o : Ex} {xs : List Ex} {es : List Expr} (hok : bmOk b = true) (hn : noSup l = true) (hline : (apos.endLine == cpos.line) = true) (hlen : es.length < 20) (hx : chkEs p c xs es = true) (ho : PE X l (tE T C Wx X o)) (ha : PA X es (tA T C Wx X xs)) :
    PE X (.Call (.Attribute l (bmName b) apos) es [] cpos) (tE T C Wx X (.met b o xs)) := by
  obtain ⟨s1, s2, s3⟩ := bm_slot hok
  have fin : ∀ σ H Q, tE T C Wx X (.met b o xs) σ H Q → tE T C Wx X o σ H fun x H1 => tyV X.K (bmT b) x H1 ∧ tA T C Wx X xs σ H1 fun ys H2 => rMs (T.g X) (ofW Wx) (callM b) x ys H2 Q := fun σ H Q q =>
    (tM_bnd (R' := RelW X.K) q).imp fun v H1 ⟨m1, ρ, L1, w, S1, F1, r1, q1⟩ => by
      have q1 : run (T.g X) (ofW Wx) σ (RelW X.K) (if rcvOk L1 b w then bnd (evEs C ρ xs) fun ws => callM b w ws else fail) m1 H1 L1 Q := q1
      rcases run_if q1 with ⟨c1, q1⟩ | ⟨_, q1⟩
      · exact ⟨rcv_ty S1 r1 c1, m1, ρ, L1, S1, F1, (run_bnd (R' := RelWs X.K) q1).imp fun vs H2 ⟨m2, L2, ws, e2, S2, r2, q2⟩ => ⟨σ, m2, L2, w, ws, S2, r1.mono e2, r2, q2⟩⟩
      · exact q1.elim
  cases es with
  | nil =>
    refine PE_imp (pe_bm0 s1 s2 s3 (mt_ok (T := T) (Xw := ofW Wx) b) ho (noSup_base hn _ _ _) hline) fun σ H Q q => ?_
    refine (fin σ H Q q).imp fun x H1 ⟨h1, m, ρ, L, S, F, q2⟩ => ⟨h1, ?_⟩
    have hx0 : xs = [] := by
      cases xs with
      | nil => rfl
      | cons x xs => simp [chkEs] at hx
    subst hx0
    exact run_ret (R := RelWs X.K) q2 S .nil
  | cons e es =>
    have hs : starEach (e :: es) X.env = (false, eval e X.env) :: starEach es X.env := by
      cases xs with
      | nil => simp [chkEs] at hx
      | cons x xs => simp only [chkEs, Bool.and_eq_true] at hx; exact star_plain hx.1 es X.env
    have hpl : (backTo cpos (starEach es X.env)).any (·.1) = false := by
      cases xs with
      | nil => simp [chkEs] at hx
      | cons x xs => simp only [chkEs, Bool.and_eq_true] at hx; exact chkEs_star hx.2 X.env cpos
    have hfew : ((backTo cpos (starEach (e :: es) X.env)).all (fun x => !x.1) && (backToKw cpos (keywordEach [] X.env)).all (fun x => x.1.isSome)
      && decide ((e :: es).length + ([] : List Keyword).length + (if ([] : List Keyword).isEmpty then 0 else 1) < 30)) = true := by
      have h1 := chkEs_star hx X.env cpos
      have h2 : (backTo cpos (starEach (e :: es) X.env)).all (fun x => !x.1) = true := by
        rw [List.all_eq_true]
        intro z hz
        have := List.any_eq_false.mp h1 z hz
        simpa using this
      have h3 : (e :: es).length + ([] : List Keyword).length + (if ([] : List Keyword).isEmpty then 0 else 1) < 30 := by
        simp only [List.length_nil, List.isEmpty_nil, if_true]
        omega
      rw [h2, decide_eq_true h3]
      rfl
    exact PE_imp (pe_bm s1 s2 s3 (mt_ok (T := T) (Xw := ofW Wx) b) ho ha (noSup_base hn _ _ _) hfew hline hs hpl) fin
/-! ### isinstance -/
theorem tyName_ok (O : Ok T p C c X d) {s : String} {n : Str} {ps : Pos} (h : bltB p c.sc n (Str.ofString s) = true) (ht : tyNames.contains s = true) : PE X (.Name n ps) (tC (.ty s)) := by
  obtain ⟨rfl, g1, g2, g3⟩ := O.blt h
  have hm := List.contains_iff_mem.mp ht
  exact pe_bltn g1 g2 (boot_nm s hm) rfl (ty_ne s hm).1 g3
theorem pe_isi' (O : Ok T p C c X d) {x : Ex} {s : String} {y n : Str} {ps ps2 pos : Pos} {l : Expr} (hb : bltB p c.sc y "isinstance" = true) (hn : bltB p c.sc n (Str.ofString s) = true) (ht : tyNames.contains s = true) (hl : chkE p c x l = true) (hx : PE X l (tE T C Wx X x)) :
    PE X (.Call (.Name y ps) [l, .Name n ps2] [] pos) (tE T C Wx X (.isi x (.ty s))) := by
  obtain ⟨rfl, g1, g2, g3⟩ := O.blt hb
  refine PE_imp (pe_callB call_isi g1 g2 PyProof.Rows.boot_isinstance (pa_cons hx (pa_cons (tyName_ok O hn ht) pa_nil) (star_plain hl _ X.env)) (by decide) g3 (star_plain hl _ X.env)) fun σ H Q q => ?_
  refine (tM_bnd (R' := RelW X.K) q).imp fun v H1 ⟨m1, ρ, L1, w, S1, F1, r1, q1⟩ => ?_
  have q1 : run (T.g X) (ofW Wx) σ (RelW X.K) (match (typeNm L1 w).map fun a => a == s || (a == "bool" && s == "int") with
    | some b => ret (.bl b)
    | none => fail) m1 H1 L1 Q := q1
  cases e : typeNm L1 w with
  | none => rw [e] at q1; exact q1.elim
  | some a =>
    rw [e] at q1
    obtain ⟨t1, t2⟩ := tyx_of S1 r1 e
    exact ⟨v, .ty s, .type a, .type s, _, rfl, .ty s, t1, kit_ty (kit_nm a t2 s (List.contains_iff_mem.mp ht)), run_val q1 S1 (.bl _)⟩
/-! ### what is walked -/
abbrev tI (T : Tab) (C : Env) (W : WX) (X : Cx) (it : It) : TI := tM (T.g X) W (SrcOk (T.g X)) fun ρ => evI C ρ it
theorem pi_e {x : Ex} {e tg : Expr} (hx : PE X e (tE T C Wx X x)) : PI X tg e (tI T C Wx X (.e x)) := by
  refine ⟨fun pins s σ H R I q => ?_⟩
  obtain ⟨m, ρ, L, S, F, q⟩ := q
  have q : run (T.g X) (ofW Wx) σ (SrcOk (T.g X)) (bnd (evE C ρ x) fun w => match w with
    | .ref l => gets fun L => (match itemsOf L (.ref l) with
      | some _ => ret (.seq l)
      | none => fail)
    | .tup ws => ret (.vals ws)
    | .str x => ret (.vals (signs x))
    | _ => fail) m H L R := q
  cases ev : evE C ρ x L with
  | bad => exact (run_bnd_bad q ev).elim
  | exc w L1 => exact (pi_list hx).run pins s σ H R I ⟨m, ρ, L, S, F, run_bnd_ex q ev⟩
  | ok w L1 =>
    have q1 := run_bnd_at (R' := RelW X.K) q ev
    cases w with
    | ref l =>
      refine (pi_list hx).run pins s σ H R I ⟨m, ρ, L, S, F, q1.imp fun v H1 ⟨m1, e1, S1, r1, q2⟩ => ?_⟩
      have q2 : run (T.g X) (ofW Wx) σ (SrcOk (T.g X)) (match itemsOf L1 (.ref l) with
        | some _ => ret (.seq l)
        | none => fail) m1 H1 L1 R := q2
      cases r1 with
      | ref hl =>
        split at q2
        · rename_i ws ew
          obtain ⟨xs, h1, _⟩ := S1.itemsL hl ew
          exact ⟨_, rfl, ⟨xs, h1⟩, run_ret (R := SrcOk (T.g X)) q2 S1 (src_seq hl)⟩
        · exact q2.elim
    | tup ws =>
      refine (pi_tup hx).run pins s σ H R I ⟨m, ρ, L, S, F, q1.imp fun v H1 ⟨m1, e1, S1, r1, q2⟩ => ?_⟩
      cases r1 with
      | tup h hr => exact ⟨_, rfl, ⟨_, h⟩, run_ret (R := SrcOk (T.g X)) q2 S1 (src_tup h hr)⟩
    | str z =>
      refine (pi_str hx).run pins s σ H R I ⟨m, ρ, L, S, F, q1.imp fun v H1 ⟨m1, e1, S1, r1, q2⟩ => ?_⟩
      cases r1
      exact ⟨_, rfl, run_ret (R := SrcOk (T.g X)) q2 S1 (src_str z)⟩
    | _ => exact (pi_list hx).run pins s σ H R I ⟨m, ρ, L, S, F, q1.imp fun v H1 ⟨m1, e1, S1, r1, q2⟩ => False.elim q2⟩
theorem smallR_le {i : Int} (h : smallR i = true) : -(2 ^ 62) ≤ i ∧ i < 2 ^ 62 := by
  simp only [smallR, Bool.and_eq_true, decide_eq_true_eq] at h
  exact h
theorem wp_evEs_two {ρ : Fr} {a b : Ex} {L : Hh} {Q : List W → Hh → Prop} {E : W → Hh → Prop} : wp (evEs C ρ [a, b]) L Q E = wp (evE C ρ a) L (fun x L1 => wp (evE C ρ b) L1 (fun y L2 => Q [x, y] L2) E) E := by
  simp only [evEs, wp_bnd, wp_ret]
theorem pi_rng1 (O : Ok T p C c X d) {x : Ex} {e tg : Expr} {y : Str} {ps pos : Pos} (hb : bltB p c.sc y "range" = true) (hx : chkEs p c [x] [e] = true) (ha : PA X [e] (tA T C Wx X [x])) : PI X tg (.Call (.Name y ps) [e] [] pos) (tI T C Wx X (.rng [x])) := by
  obtain ⟨rfl, g1, g2, g3⟩ := O.blt hb
  have hx := hx
  simp only [chkEs, Bool.and_eq_true] at hx
  refine ⟨fun pins s σ H R I q => (pi_range1 g1 g2 ha (star_plain hx.1 [] X.env)).run pins s σ H R I ?_⟩
  refine (tM_bnd_len q).imp fun vs H1 ⟨m1, ρ, L1, ws, S1, F1, r1, hl, q1⟩ => ?_
  cases ws with
  | nil => simp at hl
  | cons w ws =>
    cases ws with
    | cons _ _ => simp at hl
    | nil =>
      obtain ⟨v, rfl, rv⟩ := one_of (as := []) r1
      cases w <;> try exact False.elim q1
      cases rv
      rcases run_if q1 with ⟨c1, q1⟩ | ⟨_, q1⟩
      · obtain ⟨k1, k2⟩ := smallR_le c1
        exact ⟨_, rfl, k1, k2, run_ret (R := SrcOk (T.g X)) q1 S1 (src_rng 0 _)⟩
      · exact q1.elim
theorem pi_rng2 (O : Ok T p C c X d) {x x2 : Ex} {e e2 tg : Expr} {y : Str} {ps pos : Pos} (hb : bltB p c.sc y "range" = true) (hx : chkEs p c [x, x2] [e, e2] = true) (ha : PA X [e, e2] (tA T C Wx X [x, x2])) : PI X tg (.Call (.Name y ps) [e, e2] [] pos) (tI T C Wx X (.rng [x, x2])) := by
  obtain ⟨rfl, g1, g2, g3⟩ := O.blt hb
  have hx := hx
  simp only [chkEs, Bool.and_eq_true] at hx
  have h2 : starEach [e2] X.env = [(false, eval e2 X.env)] := star_plain hx.2.1 [] X.env
  refine ⟨fun pins s σ H R I q => (pi_range2 g1 g2 ha (by rw [star_plain hx.1 [e2] X.env, h2]) h2).run pins s σ H R I ?_⟩
  refine (tM_bnd_len q).imp fun vs H1 ⟨m1, ρ, L1, ws, S1, F1, r1, hl, q1⟩ => ?_
  cases ws with
  | nil => simp at hl
  | cons w ws =>
    cases ws with
    | nil => simp at hl
    | cons w2 ws =>
      cases ws with
      | cons _ _ => simp at hl
      | nil =>
        cases r1 with
        | cons ra rb =>
          obtain ⟨v, rfl, rv⟩ := one_of (as := []) rb
          cases w <;> cases w2 <;> try exact False.elim q1
          cases ra
          cases rv
          rcases run_if q1 with ⟨c1, q1⟩ | ⟨_, q1⟩
          · simp only [Bool.and_eq_true] at c1
            obtain ⟨k1, k2⟩ := smallR_le c1.1
            obtain ⟨k3, k4⟩ := smallR_le c1.2
            exact ⟨_, _, rfl, ⟨k1, k2, k3, k4⟩, run_ret (R := SrcOk (T.g X)) q1 S1 (src_rng _ _)⟩
          · exact q1.elim
theorem pi_en (O : Ok T p C c X d) {x : Ex} {e : Expr} {elts : List Expr} {kk : Nat} {tpos : Pos} {y : Str} {ps pos : Pos} (hb : bltB p c.sc y "enumerate" = true) (hx : chkE p c x e = true) (he : PE X e (tE T C Wx X x)) : PI X (.Tuple elts kk tpos) (.Call (.Name y ps) [e] [] pos) (tI T C Wx X (.enum x)) := by
  obtain ⟨rfl, g1, g2, g3⟩ := O.blt hb
  refine ⟨fun pins s σ H R I q => (pi_enum g1 g2 (pa_cons he pa_nil (star_plain hx [] X.env)) (star_plain hx [] X.env)).run pins s σ H R I ?_⟩
  refine (tM_bnd (R' := RelW X.K) q).imp fun v H1 ⟨m1, ρ, L1, w, S1, F1, r1, q1⟩ => ?_
  cases w <;> try exact False.elim q1
  rename_i l
  have q1 : run (T.g X) (ofW Wx) σ (SrcOk (T.g X)) (match itemsOf L1 (.ref l) with
    | some _ => ret (.enum l)
    | none => fail) m1 H1 L1 R := q1
  cases r1 with
  | ref hl =>
    split at q1
    · rename_i ws ew
      obtain ⟨xs, h1, _⟩ := S1.itemsL hl ew
      exact ⟨_, xs, rfl, h1, run_ret (R := SrcOk (T.g X)) q1 S1 (src_enum hl)⟩
    · exact q1.elim
theorem pi_zp (O : Ok T p C c X d) {x x2 : Ex} {e e2 : Expr} {elts : List Expr} {kk : Nat} {tpos : Pos} {y : Str} {ps pos : Pos} (hb : bltB p c.sc y "zip" = true) (hx : chkE p c x e = true) (hx2 : chkE p c x2 e2 = true) (he : PE X e (tE T C Wx X x)) (he2 : PE X e2 (tE T C Wx X x2)) :
    PI X (.Tuple elts kk tpos) (.Call (.Name y ps) [e, e2] [] pos) (tI T C Wx X (.zip x x2)) := by
  obtain ⟨rfl, g1, g2, g3⟩ := O.blt hb
  refine ⟨fun pins s σ H R I q => (RZ.pi_zipA g1 g2 (pa_cons he (pa_cons he2 pa_nil (star_plain hx2 [] X.env)) (star_plain hx _ X.env)) (star_plain hx _ X.env) (chkEs_star (p := p) (c := c) (xs := [x2]) (by simp [chkEs, hx2]) X.env pos)).run pins s σ H R I ?_⟩
  refine (tM_bnd (R' := RelW X.K) q).imp fun v H1 ⟨m1, ρ, L1, w, S1, F1, r1, q1⟩ => ⟨m1, ρ, L1, S1, F1, (run_bnd (R' := RelW X.K) q1).imp fun v2 H2 ⟨m2, L2, w2, e2, S2, r2, q2⟩ => ?_⟩
  have r1 := r1.mono e2
  cases w with
  | tup ws =>
    cases w2 with
    | tup ws2 =>
      cases r1 with
      | tup h hr =>
        cases r2 with
        | tup h2 hr2 => exact ⟨_, _, _, _, rfl, .inr ⟨h, h2, run_ret (R := SrcOk (T.g X)) q2 S2 (src_zipT h h2 hr hr2)⟩⟩
    | _ => exact False.elim q2
  | ref l =>
    cases w2 with
    | ref l2 =>
      have q2 : run (T.g X) (ofW Wx) σ (SrcOk (T.g X)) (match itemsOf L2 (.ref l), itemsOf L2 (.ref l2) with
        | some _, some _ => ret (.zipL l l2)
        | _, _ => fail) m2 H2 L2 R := q2
      cases r1 with
      | ref hl =>
        cases r2 with
        | ref hl2 =>
          split at q2
          · rename_i ws ws2 ew ew2
            obtain ⟨xs, h1, _⟩ := S2.itemsL hl ew
            obtain ⟨xs2, h2, _⟩ := S2.itemsL hl2 ew2
            exact ⟨_, _, _, _, rfl, .inl ⟨h1, h2, run_ret (R := SrcOk (T.g X)) q2 S2 (src_zipL hl hl2)⟩⟩
          · exact q2.elim
    | _ => exact False.elim q2
  | _ => cases w2 <;> exact False.elim q2
/-! ### targets -/
def RG (K : PySem.W.Frag) (ix : List Nat) (σ0 : L2.St) : List Addr → Hp → Fr → L2.St → Prop := fun m H ρ σ => RelF K m H ρ σ ∧ σ.length = σ0.length ∧ ∀ i, i ∉ ix → σ[i]? = σ0[i]?
def tG (T : Tab) (C : Env) (W : WX) (X : Cx) (t : Tgt) : TG := fun v σ H Q => ∃ m ρ L w, Sim (T.g X) m L H ∧ RelF X.K m H ρ σ ∧ RelW X.K m H w v ∧ run (T.g X) (ofW W) σ (RG X.K (tgIx t) σ) (asgT C t w ρ) m H L Q
def tGs (T : Tab) (C : Env) (W : WX) (X : Cx) (ts : List Tgt) : TGs := fun vs σ H Q => ∃ m ρ L ws, Sim (T.g X) m L H ∧ RelF X.K m H ρ σ ∧ RelWs X.K m H ws vs ∧ run (T.g X) (ofW W) σ (RG X.K (tgIxs ts) σ) (asgTs C ts ws ρ) m H L Q
mutual
theorem pl_noexc : ∀ (t : Tgt), tgPl t = true → ∀ {w : W} {ρ : Fr} {L : Hh} {Q : Fr → Hh → Prop} {E E' : W → Hh → Prop}, wp (asgT C t w ρ) L Q E → wp (asgT C t w ρ) L Q E'
  | .nm i, h, w, ρ, L, Q, E, E', q => q
  | .tup ts, h, w, ρ, L, Q, E, E', q => by
    cases w with
    | tup ws => exact pl_noexcs ts h q
    | _ => exact False.elim q
  | .sub _ _, h, _, _, _, _, _, _, _ => by cases h
  | .fld _ _, h, _, _, _, _, _, _, _ => by cases h
theorem pl_noexcs : ∀ (ts : List Tgt), tgPls ts = true → ∀ {ws : List W} {ρ : Fr} {L : Hh} {Q : Fr → Hh → Prop} {E E' : W → Hh → Prop}, wp (asgTs C ts ws ρ) L Q E → wp (asgTs C ts ws ρ) L Q E'
  | [], h, ws, ρ, L, Q, E, E', q => by
    cases ws with
    | nil => exact q
    | cons w ws => exact False.elim q
  | t :: ts, h, ws, ρ, L, Q, E, E', q => by
    simp only [tgPls, Bool.and_eq_true] at h
    cases ws with
    | nil => exact False.elim q
    | cons w ws =>
      have q : wp (bnd (asgT C t w ρ) fun ρ1 => asgTs C ts ws ρ1) L Q E := q
      show wp (bnd (asgT C t w ρ) fun ρ1 => asgTs C ts ws ρ1) L Q E'
      rw [wp_bnd] at q ⊢
      exact pl_noexc t h.1 (wp_mono q (fun a L1 q1 => pl_noexcs ts h.2 q1) fun _ _ q => q)
end
theorem asgE_plain {x : Tgt} {e : Expr} (h : chkG p c x e = true) (es : List Expr) (env : PySem.Env) : assignEach (e :: es) env = (false, assign e env) :: assignEach es env := by
  cases e <;> first | rfl | (exfalso; revert h; cases x <;> simp [chkG])
theorem asgE_all : ∀ {xs : List Tgt} {es : List Expr}, chkGs p c xs es = true → ∀ (env : PySem.Env), (assignEach es env).length = xs.length ∧ (assignEach es env).findIdx? (·.1) = none
  | [], es, h, env => by
    cases es with
    | nil => exact ⟨rfl, rfl⟩
    | cons e es => simp [chkGs] at h
  | x :: xs, es, h, env => by
    cases es with
    | nil => simp [chkGs] at h
    | cons e es =>
      simp only [chkGs, Bool.and_eq_true] at h
      obtain ⟨h1, h2⟩ := asgE_all h.2 env
      rw [asgE_plain h.1]
      refine ⟨by simp [h1], ?_⟩
      rw [List.findIdx?_cons]
      simp [h2]
theorem wp_asgTs_len : ∀ {ts : List Tgt} {ws : List W} {ρ : Fr} {L : Hh} {Q : Fr → Hh → Prop}, wp (asgTs C ts ws ρ) L Q (fun _ _ => False) → ws.length = ts.length
  | [], ws, ρ, L, Q, h => by
    cases ws with
    | nil => rfl
    | cons w ws => exact False.elim h
  | t :: ts, ws, ρ, L, Q, h => by
    cases ws with
    | nil => exact False.elim h
    | cons w ws =>
      have h : wp (bnd (asgT C t w ρ) fun ρ1 => asgTs C ts ws ρ1) L Q (fun _ _ => False) := h
      rw [wp_bnd] at h
      cases e : asgT C t w ρ L with
      | ok r L1 =>
        unfold wp at h
        rw [e] at h
        have h2 : wp (asgTs C ts ws r) L1 Q (fun _ _ => False) := h
        simp [wp_asgTs_len h2]
      | exc x L1 => unfold wp at h; rw [e] at h; exact False.elim h
      | bad => unfold wp at h; rw [e] at h; exact False.elim h
/-- a run that raises nothing -/
def runF (g : G) {α β : Type} (R : List Addr → Hp → α → β → Prop) (c : M α) (m : List Addr) (H : Hp) (L : Hh) (Q : β → Hp → Prop) : Prop :=
  wp c L (fun a L' => ∀ m' H' b, Ext m H m' H' → Sim g m' L' H' → R m' H' a b → Q b H') fun _ _ => False
theorem run_F {α β : Type} {g : G} {Xw : XW} {σ : L2.St} {R : List Addr → Hp → α → β → Prop} {m : List Addr} {H : Hp} {L : Hh} {Q : β → Hp → Prop} {c : M α} (h : run g Xw σ R (noX c) m H L Q) : runF g R c m H L Q := by
  unfold run at h
  rw [wp_noX] at h
  exact h
theorem runF_assoc3 {α β γ δ ε : Type} {g : G} {R : List Addr → Hp → α → β → Prop} {m : List Addr} {H : Hp} {L : Hh} {Q : β → Hp → Prop} {a : M γ} {f : γ → M δ} {k : δ → M ε} {l : ε → M α} (h : runF g R (bnd (bnd (bnd a f) k) l) m H L Q) :
    runF g R (bnd a fun x => bnd (bnd (f x) k) l) m H L Q := by
  unfold runF at h ⊢
  simp only [wp_bnd] at h ⊢
  exact h
theorem runF_bnd {α β γ δ : Type} {g : G} {Xw : XW} {σ : L2.St} {R : List Addr → Hp → α → β → Prop} {R' : List Addr → Hp → γ → δ → Prop} {m0 m : List Addr} {H0 H : Hp} {L : Hh} {Q : β → Hp → Prop} {c : M γ} {f : γ → M α} (h : runF g R (bnd c f) m0 H0 L Q) :
    run g Xw σ R' c m H L (fun d H1 => ∃ m1 L1 a, Ext m H m1 H1 ∧ Sim g m1 L1 H1 ∧ R' m1 H1 a d ∧ runF g R (f a) m0 H0 L1 Q) := by
  unfold runF at h
  rw [wp_bnd] at h
  exact wp_mono h (fun a L1 q m1 H1 b e1 s1 r1 => ⟨m1, L1, a, e1, s1, r1, q⟩) fun _ _ q => q.elim
theorem Ext.notin {m m' : List Addr} {H H' : Hp} {D : Addr} {u : HO} (e : Ext m H m' H') (hD : D ∉ m) (hu : H D = some u) : D ∉ m' := by
  obtain ⟨k, rfl, hk⟩ := e.pre
  intro h
  rcases List.mem_append.mp h with q | q
  · exact hD q
  · rw [hk D q] at hu
    cases hu
theorem pts_ok {X : Cx} {cs : List Tx} {ifs : List Expr} (hl : ifs.length ≤ 1) (h : chkTs p c cs ifs = true) (ht : ∀ t ∈ cs, ∀ e, chkT p c t e = true → PT X e (tT T C Wx X t)) : PTs X ifs (tM (T.g X) Wx RB fun ρ => tsAnd C ρ cs) := by
  cases ifs with
  | nil =>
    cases cs with
    | cons t cs => simp [chkTs] at h
    | nil => exact ⟨fun pins s σ H Q I ⟨m, ρ, L, S, F, q⟩ => pts_nil.run pins s σ H Q I (run_ret (R := RB) q S rfl)⟩
  | cons e ifs =>
    cases ifs with
    | cons _ _ => simp at hl
    | nil =>
      cases cs with
      | nil => simp [chkTs] at h
      | cons t cs =>
        simp only [chkTs, Bool.and_eq_true] at h
        cases cs with
        | cons _ _ => simp [chkTs] at h
        | nil =>
          refine ⟨fun pins s σ H Q I q => (pts_one (ht t (by simp) e h.1)).run pins s σ H Q I ?_⟩
          refine (tM_bnd (R' := RB) q).imp fun k H1 ⟨m1, ρ, L1, w, S1, F1, r1, q1⟩ => ?_
          have r1 : w = k := r1
          subst r1
          cases w
          · rw [if_neg (by simp)] at q1; exact run_ret (R := RB) q1 S1 rfl
          · rw [if_pos rfl] at q1; exact run_ret (R := RB) q1 S1 rfl
/-- a comprehension's turns -/
theorem lc_turns {own : List (Str × Nat)} {t : Tgt} {it : It} {cs : List Tx} {x : Ex} (hown : tgOwn (own.map (·.2)) t = true) {σ : L2.St} {H : Hp} {Q : VK} (q : tE T C Wx X (.lc own t it cs x) σ H Q) :
    tLc (tI T C Wx X it) (tG T C WF X t) (tM (T.g X) WF RB fun ρ => tsAnd C ρ cs) (tE T C WF X x) (own.map (·.2)) σ H Q := by
  refine (tM_bnd (R' := SrcOk (T.g X)) q).imp fun J H1 ⟨m1, ρ, L1, s, S1, F1, sk, q1⟩ D hD => ?_
  have q1 := run_F q1
  obtain ⟨e0, S0⟩ := S1.free (u := .lst []) hD
  refine ⟨fun i n Hc => ∃ mm Lc ws xs, Ext m1 H1 mm Hc ∧ Sim (T.g X) mm Lc Hc ∧ D ∉ mm ∧ Hc D = some (.lst xs) ∧ RelWs X.K mm Hc ws xs ∧ runF (T.g X) (RelW X.K) (bnd (loopC s (fun w => bnd (asgT C t w (wipeF ρ (own.map (·.2)))) fun ρ1 => bnd (tsAnd C ρ1 cs) fun b => if b = true then bnd (evE C ρ1 x) fun v => ret (some v) else ret none) n i ws) fun ws => alloc (.lst ws)) m1 H1 Lc Q,
    ⟨fuel, m1, L1, [], [], e0, S0, S1.notIn hD, upd_same, .nil, q1⟩, ?_⟩
  rintro i n Hc ⟨mm, Lc, ws, xs, ex, S, hDm, hDl, rws, q2⟩
  cases n with
  | zero => exact q2.elim
  | succ n =>
    have q2 : runF (T.g X) (RelW X.K) (bnd (match srcAt Lc i s with
      | none => fail
      | some none => ret ws
      | some (some w) => bnd (bnd (asgT C t w (wipeF ρ (own.map (·.2)))) fun ρ1 => bnd (tsAnd C ρ1 cs) fun b => if b = true then bnd (evE C ρ1 x) fun v => ret (some v) else ret none) fun r => match r with
        | none => loopC s (fun w => bnd (asgT C t w (wipeF ρ (own.map (·.2)))) fun ρ1 => bnd (tsAnd C ρ1 cs) fun b => if b = true then bnd (evE C ρ1 x) fun v => ret (some v) else ret none) n (i + 1) ws
        | some v => if decide (ws.length < sizeLine) then loopC s (fun w => bnd (asgT C t w (wipeF ρ (own.map (·.2)))) fun ρ1 => bnd (tsAnd C ρ1 cs) fun b => if b = true then bnd (evE C ρ1 x) fun v => ret (some v) else ret none) n (i + 1) (ws ++ [v]) else fail) fun ws => alloc (.lst ws)) m1 H1 Lc Q := q2
    obtain ⟨k1, k2⟩ := sk mm Lc Hc ex.x0 S i
    cases es : srcAt Lc i s with
    | none => rw [es] at q2; exact q2.elim
    | some o =>
      cases o with
      | none =>
        left
        refine ⟨k2 es, ?_⟩
        rw [es] at q2
        have ea := ex.adopt hD
        have Sa : Sim (T.g X) (mm ++ [D]) (Lc ++ [.lst ws]) Hc := S.adopt hDm ⟨xs, hDl, rws.mono0 ⟨fun l a h => by
          obtain ⟨hl, _⟩ := List.getElem?_eq_some_iff.mp h
          rw [List.getElem?_append_left hl]
          exact h, fun _ _ h => h, fun _ _ _ h => h⟩⟩
        exact q2 _ _ _ ea Sa (.ref (by rw [← S.len]; simp))
      | some w =>
        right
        obtain ⟨g1, g2⟩ := k1 w es
        rw [es] at q2
        have q3 := runF_assoc3 q2
        refine ⟨g1, fun Hn => ∃ mm Lc ws xs, Ext m1 H1 mm Hn ∧ Sim (T.g X) mm Lc Hn ∧ D ∉ mm ∧ Hn D = some (.lst xs) ∧ RelWs X.K mm Hn ws xs ∧ runF (T.g X) (RelW X.K) (bnd (loopC s (fun w => bnd (asgT C t w (wipeF ρ (own.map (·.2)))) fun ρ1 => bnd (tsAnd C ρ1 cs) fun b => if b = true then bnd (evE C ρ1 x) fun v => ret (some v) else ret none) n (i + 1) ws) fun ws => alloc (.lst ws)) m1 H1 Lc Q,
          fun H' h => ⟨n, Nat.lt_succ_self n, h⟩, fun v H' y => ?_⟩
        obtain ⟨e2, S2, rw2⟩ := g2 v H' y
        have hD2 : H' D = some (.lst xs) := e2.out D _ hDl hDm (fun _ z => nomatch z)
        have ex2 := ex.trans e2
        refine ⟨mm, wipeF ρ (own.map (·.2)), Lc, w, S2, (F1.mono ex2).wipe _, rw2, ?_⟩
        refine (runF_bnd (R' := RG X.K (tgIx t) (wipe σ (own.map (·.2)))) (m := mm) (H := H') q3).imp fun σ3 H3 ⟨m3, L3, ρ3, e3, S3, ⟨F3, fl, fs⟩, q4⟩ => ?_
        have hD3 : H3 D = some (.lst xs) := e3.out D _ hD2 hDm (fun _ z => nomatch z)
        have hm3 : D ∉ m3 := e3.notin hDm hD2
        have ex3 := ex2.trans e3
        simp only [tgOwn, Bool.and_eq_true] at hown
        refine ⟨wipe_same (by rw [fl, wipe_length]) fun j hj => fs j fun hj2 => hj (by
          have := List.all_eq_true.mp hown.2 j hj2
          exact List.contains_iff_mem.mp this), m3, ρ3, L3, S3, F3, ?_⟩
        have q4 : runF (T.g X) (RelW X.K) (bnd (bnd (bnd (tsAnd C ρ3 cs) fun b => if b = true then bnd (evE C ρ3 x) fun v => ret (some v) else ret none) fun r => match r with
          | none => loopC s (fun w => bnd (asgT C t w (wipeF ρ (own.map (·.2)))) fun ρ1 => bnd (tsAnd C ρ1 cs) fun b => if b = true then bnd (evE C ρ1 x) fun v => ret (some v) else ret none) n (i + 1) ws
          | some v => if decide (ws.length < sizeLine) then loopC s (fun w => bnd (asgT C t w (wipeF ρ (own.map (·.2)))) fun ρ1 => bnd (tsAnd C ρ1 cs) fun b => if b = true then bnd (evE C ρ1 x) fun v => ret (some v) else ret none) n (i + 1) (ws ++ [v]) else fail) fun ws => alloc (.lst ws)) m1 H1 L3 Q := q4
        refine (runF_bnd (R' := RB) (m := m3) (H := H3) (runF_assoc3 q4)).imp fun b H4 ⟨m4, L4, b', e4, S4, eb, q5⟩ => ?_
        have eb : b' = b := eb
        subst eb
        have hD4 : H4 D = some (.lst xs) := e4.out D _ hD3 hm3 (fun _ z => nomatch z)
        have hm4 : D ∉ m4 := e4.notin hm3 hD3
        have ex4 := ex3.trans e4
        have rws4 := ((rws.mono e2).mono e3).mono e4
        cases b' with
        | false =>
          rw [if_neg (by simp)] at q5 ⊢
          exact ⟨m4, L4, ws, xs, ex4, S4, hm4, hD4, rws4, q5⟩
        | true =>
          rw [if_pos rfl] at q5 ⊢
          refine ⟨m4, ρ3, L4, S4, F3.mono e4, (runF_bnd (R' := RelW X.K) (m := m4) (H := H4) (runF_assoc3 q5)).imp fun y H5 ⟨m5, L5, w5, e5, S5, r5, q6⟩ => ?_⟩
          have hD5 : H5 D = some (.lst xs) := e5.out D _ hD4 hm4 (fun _ z => nomatch z)
          have hm5 : D ∉ m5 := e5.notin hm4 hD4
          have rws5 := rws4.mono e5
          obtain ⟨S6, x6⟩ := S5.apart (ys := xs ++ [y]) hm5 hD5
          have q6 : runF (T.g X) (RelW X.K) (bnd (if decide (ws.length < sizeLine) then loopC s (fun w => bnd (asgT C t w (wipeF ρ (own.map (·.2)))) fun ρ1 => bnd (tsAnd C ρ1 cs) fun b => if b = true then bnd (evE C ρ1 x) fun v => ret (some v) else ret none) n (i + 1) (ws ++ [w5]) else fail) fun ws => alloc (.lst ws)) m1 H1 L5 Q := q6
          by_cases hz : ws.length < sizeLine
          · rw [if_pos (decide_eq_true hz)] at q6
            exact ⟨xs, hD5, by rw [← rws.length]; exact hz, m5, L5, ws ++ [w5], xs ++ [y], (ex4.trans e5).apart hD, S6, hm5, upd_same, (rws5.append (.one r5)).mono0 x6, q6⟩
          · rw [if_neg (by simpa using hz)] at q6
            exact q6.elim

theorem pe_lcx (O : Ok T p C c X d) {own : List (Str × Nat)} {t : Tgt} {it : It} {cs : List Tx} {x : Ex} {elt tg iter : Expr} {ifs : List Expr} {scope : Scope} {pos : Pos} (hown : tgOwn (own.map (·.2)) t = true) (hb : blkC c.N c.sc scope own = true)
    (hi : PI X tg iter (tI T C Wx X it)) (hg : ∀ (s : Shared) (H : Hp) (Cc : Addr) (cl : List (Str × Addr)) (fp : List Addr), PG (X.blk s H scope (compEnvC scope cl Cc X.env) fp) tg (tG T C WF X t))
    (ht : ∀ (s : Shared) (H : Hp) (Cc : Addr) (cl : List (Str × Addr)) (fp : List Addr), PTs (X.blk s H scope (compEnvC scope cl Cc X.env) fp) ifs (tM (T.g X) WF RB fun ρ => tsAnd C ρ cs))
    (he : ∀ (s : Shared) (H : Hp) (Cc : Addr) (cl : List (Str × Addr)) (fp : List Addr), PE (X.blk s H scope (compEnvC scope cl Cc X.env) fp) elt (tE T C WF X x))
    (hs : ∀ v, foldedSetIterable iter X.env v = pure v) : PE X (.ListComp elt [⟨tg, iter, ifs, 0⟩] scope pos) (tE T C Wx X (.lc own t it cs x)) :=
  PE_imp (pe_lc O.calm (by rw [O.N]; exact O.nd) hi (blkOk_by (by rw [O.N, O.sc]; exact hb)) hg ht he hs) fun σ H Q q => lc_turns hown q
theorem noSet {x : It} {tg e : Expr} (h : chkI p c x tg e = true) (env : PySem.Env) (v : Value) : foldedSetIterable e env v = pure v := by
  cases e <;> first | rfl | skip
  exfalso
  cases x with
  | e x => simp only [chkI] at h; revert h; cases x <;> simp [chkE]
  | rng xs => simp [chkI] at h
  | enum x => cases tg <;> simp [chkI] at h
  | zip x y => cases tg <;> simp [chkI] at h
def clV : Cl → V
  | .ty s => .ty s
  | .own _ => .non
def clU : Cl → Value
  | .ty s => .type s
  | .own _ => .none
theorem cls_ok (O : Ok T p C c X d) : ∀ {cs : List Cl} {es : List Expr}, chkCls p c cs es = true → (PA X es fun _ H Q => Q (cs.map clV) H) ∧ Paired ClsV (cs.map clV) (cs.map clU) ∧ (∀ q ∈ cs, ∃ s, q = .ty s ∧ s ∈ tyNames) ∧ cs.length = es.length
  | [], es, h => by
    cases es with
    | cons e es => simp [chkCls] at h
    | nil => exact ⟨pa_nil, .nil, by simp, rfl⟩
  | .own _ :: cs, es, h => by simp [chkCls] at h
  | .ty s :: cs, es, h => by
    simp only [chkCls] at h
    split at h <;> try cases h
    simp only [Bool.and_eq_true] at h
    obtain ⟨⟨h1, h2⟩, h3⟩ := h
    obtain ⟨i1, i2, i3, i4⟩ := cls_ok O h3
    refine ⟨⟨fun pos pins st σ H Q I q => (pa_cons (tyName_ok O h1 h2) i1 rfl).run pos pins st σ H Q I q⟩, .cons (.ty s) i2, fun q hq => ?_, by simp [i4]⟩
    rcases List.mem_cons.mp hq with e | e
    · exact ⟨s, e, List.contains_iff_mem.mp h2⟩
    · exact i3 q e
theorem any_kit {L : Hh} {w : W} {a : String} (ha : typeNm L w = some a) (hm : a ∈ nmAll) {sb : Nat → Nat → Bool} {K : PySem.W.Frag} : ∀ {cs : List Cl} {b : Bool}, (∀ q ∈ cs, ∃ s, q = .ty s ∧ s ∈ tyNames) → anyKind sb L w cs = some b → PySem.W.kitAny K (.type a) (cs.map clU) = some b
  | [], b, _, h => by
    simp [anyKind] at h
    subst h
    rfl
  | q :: cs, b, hq, h => by
    obtain ⟨s, rfl, hs⟩ := hq q (by simp)
    simp only [anyKind, isKind, ha, Option.map_some] at h
    split at h
    · rename_i a1 b1 e1 e2
      simp only [Option.some.injEq] at e1 h
      subst e1 h
      have ih := any_kit ha hm (K := K) (fun q hq' => hq q (by simp [hq'])) e2
      refine kitAny_cons (kit_ty (kit_nm a hm s hs)) (fun e => ?_) fun e => ?_
      · rw [e, Bool.false_or]; exact ih
      · rw [e, Bool.true_or]
    · cases h
theorem pe_isis' (O : Ok T p C c X d) {x : Ex} {cs : List Cl} {y : Str} {ps pos tpos : Pos} {k : Nat} {l : Expr} {es : List Expr} (hb : bltB p c.sc y "isinstance" = true) (hc : chkCls p c cs es = true) (hl : chkE p c x l = true) (hx : PE X l (tE T C Wx X x)) :
    PE X (.Call (.Name y ps) [l, .Tuple es k tpos] [] pos) (tE T C Wx X (.isis x cs)) := by
  obtain ⟨rfl, g1, g2, g3⟩ := O.blt hb
  obtain ⟨c1, c2, c3, c4⟩ := cls_ok O hc
  refine PE_imp (pe_callB call_isiT g1 g2 PyProof.Rows.boot_isinstance (pa_cons hx (pa_cons (pe_tup c1) pa_nil) (star_plain hl _ X.env)) (by decide) g3 (star_plain hl _ X.env)) fun σ H Q q => ?_
  refine (tM_bnd (R' := RelW X.K) q).imp fun v H1 ⟨m1, ρ, L1, w, S1, F1, r1, q1⟩ => ?_
  have q1 : run (T.g X) (ofW Wx) σ (RelW X.K) (if cs ≠ [] ∧ cs.length < 64 then match anyKind C.sub L1 w cs with
    | some b => ret (.bl b)
    | none => fail else fail) m1 H1 L1 Q := q1
  rcases run_if q1 with ⟨⟨hne, hz⟩, q1⟩ | ⟨_, q1⟩
  · refine ⟨by rw [List.length_map, sizeLine_eq]; omega, fun tp htp => ?_⟩
    cases e : anyKind C.sub L1 w cs with
    | none => rw [e] at q1; exact q1.elim
    | some b =>
      rw [e] at q1
      obtain ⟨e2, S2⟩ := S1.free (u := .tup (cs.map clV)) htp
      cases ea : typeNm L1 w with
      | none =>
        cases cs with
        | nil => exact absurd rfl hne
        | cons q0 cs =>
          obtain ⟨s, rfl, hs⟩ := c3 q0 (by simp)
          simp [anyKind, isKind, ea] at e
      | some a =>
        obtain ⟨t1, t2⟩ := tyx_of S2 (r1.mono e2) ea
        exact ⟨v, tp, cs.map clV, .type a, cs.map clU, b, rfl, upd_same, c2, t1, any_kit ea t2 c3 e, q1.shift e2 _ _ _ (Ext.refl _ _) S2 (.bl _)⟩
  · exact q1.elim

theorem pts_ok1 {t : Tx} {cs : List Tx} {ifs : List Expr} (hl : ifs.length ≤ 1) (h : chkTs p c (t :: cs) ifs = true) (ht : ∀ e, chkT p c t e = true → PT X e (tT T C Wx X t)) : PTs X ifs (tM (T.g X) Wx RB fun ρ => tsAnd C ρ (t :: cs)) := by
  refine pts_ok hl h fun t' ht' => ?_
  cases ifs with
  | nil => simp [chkTs] at h
  | cons e ifs =>
    cases ifs with
    | cons _ _ => simp at hl
    | nil =>
      simp only [chkTs, Bool.and_eq_true] at h
      cases cs with
      | cons _ _ => simp [chkTs] at h
      | nil =>
        simp at ht'
        subst ht'
        exact ht
theorem pi_rngs (O : Ok T p C c X d) {xs : List Ex} {es : List Expr} {tg : Expr} {y : Str} {ps pos : Pos} (hb : bltB p c.sc y "range" = true) (hx : chkEs p c xs es = true) (hl : (es.length == 1 || es.length == 2) = true) (ha : PA X es (tA T C Wx X xs)) : PI X tg (.Call (.Name y ps) es [] pos) (tI T C Wx X (.rng xs)) := by
  have hn := chkEs_len hx
  cases es with
  | nil => simp at hl
  | cons e es =>
    cases xs with
    | nil => simp at hn
    | cons x xs =>
      cases es with
      | nil =>
        cases xs with
        | cons _ _ => simp at hn
        | nil => exact pi_rng1 O hb hx ha
      | cons e2 es =>
        cases xs with
        | nil => simp at hn
        | cons x2 xs =>
          cases es with
          | cons _ _ => simp at hl
          | nil =>
            cases xs with
            | cons _ _ => simp at hn
            | nil => exact pi_rng2 O hb hx ha
theorem PG_imp {e : Expr} {t t' : TG} (h : PG X e t) (k : ∀ v σ H Q, t' v σ H Q → t v σ H Q) : PG X e t' := ⟨fun pins s σ H v u Q I r q => h.run pins s σ H v u Q I r (k v σ H Q q)⟩
theorem PGs_imp {e : List Expr} {t t' : TGs} (h : PGs X e t) (k : ∀ v σ H Q, t' v σ H Q → t v σ H Q) : PGs X e t' := ⟨fun pins s σ H v u Q I r q => h.run pins s σ H v u Q I r (k v σ H Q q)⟩
theorem pg_nm (O : Ok T p C c X d) {i : Nat} {y : Str} {ps : Pos} (h1 : c.N[i]? = some y) (h2 : locB c.sc y = true) (h3 : c.asn.contains y = true) : PG X (.Name y ps) (tG T C Wx X (.nm i)) := by
  refine PG_imp (pg_name (i := i) (by rw [O.N]; exact O.nd) (by rw [O.N]; exact h1) (O.loc h2) (O.fnl (List.contains_iff_mem.mp h3) h2)) fun v σ H Q ⟨m, ρ, L, w, S, F, r, q⟩ => ?_
  exact run_ret (R := RG X.K (tgIx (.nm i)) σ) q S ⟨F.set r, by simp, fun j hj => List.getElem?_set_ne (fun z => hj (by simp [tgIx, z]))⟩
theorem pgs_nl : PGs X [] (tGs T C Wx X []) := by
  refine PGs_imp pgs_nil fun vs σ H Q ⟨m, ρ, L, ws, S, F, r, q⟩ => ?_
  cases ws with
  | cons _ _ => exact False.elim q
  | nil =>
    cases r
    exact ⟨rfl, run_ret (R := RG X.K (tgIxs []) σ) q S ⟨F, rfl, fun _ _ => rfl⟩⟩
theorem pgs_cn {t : Tgt} {ts : List Tgt} {e : Expr} {es : List Expr} (hp : tgPl t = true) (hps : tgPls ts = true) (hk : chkG p c t e = true) (h1 : PG X e (tG T C Wx X t)) (h2 : PGs X es (tGs T C Wx X ts)) : PGs X (e :: es) (tGs T C Wx X (t :: ts)) := by
  refine PGs_imp (pgs_cons h1 h2 (by rw [asgE_plain hk]; rfl)) fun vs σ H Q ⟨m, ρ, L, ws, S, F, r, q⟩ => ?_
  cases ws with
  | nil => exact False.elim q
  | cons w ws =>
    cases r with
    | @cons _ v _ vs ra rb =>
      have q : run (T.g X) (ofW Wx) σ (RG X.K (tgIxs (t :: ts)) σ) (bnd (asgT C t w ρ) fun ρ1 => asgTs C ts ws ρ1) m H L Q := q
      refine ⟨v, vs, rfl, m, ρ, L, w, S, F, ra, ?_⟩
      refine (run_bnd (R' := RG X.K (tgIx t) σ) q).imp fun σ1 H1 ⟨m1, L1, ρ1, e1, S1, ⟨F1, fl, fs⟩, q1⟩ => ?_
      refine ⟨m1, ρ1, L1, ws, S1, F1, rb.mono e1, ?_⟩
      have q2 := pl_noexcs ts hps (E' := fun e L' => ∀ m' H' cls d, Ext m1 H1 m' H' → Sim (T.g X) m' L' H' → (T.g X).rx m' H' e cls d → ofW Wx σ1 e cls d H') q1
      refine wp_mono q2 (fun a L' z m' H' σ' e' s' ⟨rf, rl, rs⟩ => z m' H' σ' e' s' ⟨rf, rl.trans fl, fun i hi => ?_⟩) fun _ _ z => z
      simp only [tgIxs, List.mem_append, not_or] at hi
      exact (rs i hi.2).trans (fs i hi.1)
theorem pg_tp (O : Ok T p C c X d) {ts : List Tgt} {es : List Expr} {k : Nat} {ps : Pos} (hp : tgPls ts = true) (hk : chkGs p c ts es = true) (h : PGs X es (tGs T C Wx X ts)) : PG X (.Tuple es k ps) (tG T C Wx X (.tup ts)) := by
  obtain ⟨a1, a2⟩ := asgE_all hk X.env
  refine PG_imp (pg_tup (n := ts.length) O.calm h a1 a2) fun v σ H Q ⟨m, ρ, L, w, S, F, r, q⟩ => ?_
  cases w with
  | tup ws =>
    cases r with
    | @tup a xs _ hs hr =>
      have q : run (T.g X) (ofW Wx) σ (RG X.K (tgIxs ts) σ) (asgTs C ts ws ρ) m H L Q := q
      refine ⟨a, xs, rfl, hs, ?_, m, ρ, L, ws, S, F, hr, q⟩
      rw [← hr.length]
      exact wp_asgTs_len (pl_noexcs ts hp q)
  | _ => exact False.elim q
theorem pg_sb {o i : Ex} {l r : Expr} {ps : Pos} (hi : chkE p c i r = true) (h1 : PE X l (tE T C Wx X o)) (h2 : PE X r (tE T C Wx X i)) : PG X (.Subscript l r ps) (tG T C Wx X (.sub o i)) := by
  refine PG_imp (pg_sub h1 h2 set_list (by intro v; cases r <;> first | rfl | (rw [chk_slice] at hi; cases hi))) fun v σ H Q ⟨m, ρ, L, w, S, F, r, q⟩ => ?_
  have q : run (T.g X) (ofW Wx) σ (RG X.K (tgIx (.sub o i)) σ) (bnd (evE C ρ o) fun x => bnd (evE C ρ i) fun y => bnd (setItem x y w) fun _ => ret ρ) m H L Q := q
  refine ⟨m, ρ, L, S, F, (run_bnd (R' := RelW X.K) q).imp fun vo H1 ⟨m1, L1, x, e1, S1, r1, q1⟩ => ⟨m1, ρ, L1, S1, F.mono e1, (run_bnd (R' := RelW X.K) q1).imp fun vi H2 ⟨m2, L2, y, e2, S2, r2, q2⟩ => ?_⟩⟩
  have r1 := r1.mono e2
  have rw2 := (r.mono e1).mono e2
  have F2 := (F.mono e1).mono e2
  cases x with
  | ref l =>
    cases y with
    | int k =>
      have q2 : run (T.g X) (ofW Wx) σ (RG X.K (tgIx (.sub o i)) σ) (bnd (match L2[l]? with
        | some (.lst ws) => (match _root_.L2.ixN ws.length k with
          | some j => put l (.lst (ws.set j w))
          | none => fail)
        | _ => fail) fun _ => ret ρ) m2 H2 L2 Q := q2
      cases r1 with
      | @ref _ a hl =>
        cases r2
        split at q2
        · rename_i ws e
          obtain ⟨xs, h1, rr⟩ := S2.lst hl e
          split at q2
          · rename_i j ej
            refine ⟨a, xs, k, j, rfl, rfl, h1, by rw [← rr.length]; exact ej, ?_⟩
            obtain ⟨e3, S3⟩ := S2.put (o' := .lst (ws.set j w)) (u := .lst (xs.set j v)) hl e rfl fun e3 => ⟨_, upd_same, (rr.set rw2).mono e3⟩
            have q3 : wp (ret ρ) (L2.set l (.lst (ws.set j w))) (fun a L' => ∀ m' H' b, Ext m2 H2 m' H' → Sim (T.g X) m' L' H' → RG X.K (tgIx (.sub o i)) σ m' H' a b → Q b H') (fun e L' => ∀ m' H' cls d, Ext m2 H2 m' H' → Sim (T.g X) m' L' H' → (T.g X).rx m' H' e cls d → ofW Wx σ e cls d H') := q2
            exact q3 _ _ σ e3 S3 ⟨F2.mono e3, rfl, fun _ _ => rfl⟩
          · exact q2.elim
        · exact q2.elim
    | _ => exact False.elim q2
  | _ => cases y <;> exact False.elim q2

/-- sorted(set(x)), x a text -/
theorem pe_srtset (O : Ok T p C c X d) {x : Ex} {y z : Str} {ps ps2 pos pos2 : Pos} {l : Expr} (hy : bltB p c.sc y "sorted" = true) (hz : bltB p c.sc z "set" = true) (hl : chkE p c x l = true) (hx : PE X l (tE T C Wx X x)) :
    PE X (.Call (.Name y ps) [.Call (.Name z ps2) [l] [] pos2] [] pos) (tE T C Wx X (.srtset x)) := by
  obtain ⟨rfl, g1, g2, g3⟩ := O.blt hy
  obtain ⟨rfl, k1, k2, k3⟩ := O.blt hz
  have inner := pe_callTy (p := ps2) (pos := pos2) (cr_setTxt O.calm) k1 k2 PyProof.Rows.boot_set (pa_cons hx pa_nil (star_plain hl _ X.env)) (by decide) k3 (star_plain hl _ X.env)
  refine PE_imp (pe_callB (cr_sortedSetTxt O.calm) g1 g2 PyProof.Rows.boot_sorted (pa_cons inner pa_nil) (by decide) g3) fun σ H Q q => ?_
  refine (tM_bnd (R' := RelW X.K) q).imp fun v H1 ⟨m1, ρ, L1, w, S1, F1, r1, q1⟩ => ?_
  cases w <;> try exact False.elim q1
  rename_i t
  cases r1
  rcases run_if q1 with ⟨c1, q1⟩ | ⟨_, q1⟩
  · have c1 := of_decide_eq_true c1
    have hb : scanBound = 4096 := rfl
    refine ⟨_, rfl, by rw [hb]; simp; omega, fun p n hp => ⟨p, _, n, rfl, upd_same, fun ys p2 so nd mem hl hp2 => ?_⟩⟩
    obtain ⟨e2, S2⟩ := S1.free (u := SetX X.prog X.w p (fun j => decide (j ∈ sgn ⟨t.toArray⟩)) n) hp
    have perm : ys.Perm ((dedup (t.map fun c => [c])).map tx) := by
      refine (List.perm_ext_iff_of_nodup nd (List.pairwise_map.mpr ((dedup_nodup _).imp fun h z => h (tx_inj z)))).mpr fun k => ?_
      rw [mem k, decide_eq_true_eq]
      have e3 : sgn (⟨t.toArray⟩ : Str) = (t.map fun c => [c]).map tx := sgn_tx t
      rw [e3, List.mem_map, List.mem_map]
      constructor
      · rintro ⟨a, ha, z⟩; exact ⟨a, dedup_mem.mpr ha, z⟩
      · rintro ⟨a, ha, z⟩; exact ⟨a, dedup_mem.mp ha, z⟩
    rw [sortT_eq perm so]
    exact run_new (q1.shift e2) S2 (rels_txt _) hp2
  · exact q1.elim

mutual
theorem sndE {c : Dc} {X : Cx} {Wx : WX} (O : Ok T p C c X d) (tk : Takes X Wx) : ∀ (x : Ex) (e : Expr), chkE p c x e = true → PE X e (tE T C Wx X x)
  | .var i, e, h => by
    simp only [chkE] at h
    split at h <;> try cases h
    rename_i y pos
    simp only [Bool.and_eq_true, decide_eq_true_eq] at h
    obtain ⟨⟨⟨h1, h2⟩, h3⟩, h4⟩ := h
    refine PE_imp (pe_var (i := i) (by rw [O.N]; exact h2) (O.vis h1) (by simpa [bne] using h3) (by simpa [bne] using h4)) fun σ H Q ⟨m, ρ, L, S, F, q⟩ => ?_
    have q : run (T.g X) (ofW Wx) σ (RelW X.K) (match ρ[i]? with
      | some (some w) => ret w
      | _ => fail) m H L Q := q
    split at q
    · rename_i w ew
      obtain ⟨v, e1, r⟩ := F.at_ i w ew
      exact ⟨v, e1, run_val q S r⟩
    · exact q.elim
  | .kn, e, h => by
    simp only [chkE] at h
    split at h <;> try cases h
    exact pe_const (fun _ => rfl) (fun _ _ => .non) pe_non
  | .kb b, e, h => by
    simp only [chkE] at h
    split at h <;> try cases h
    have := eq_of_beq h
    subst this
    exact pe_const (fun _ => rfl) (fun _ _ => .bl _) pe_bl
  | .ki i, e, h => by
    simp only [chkE] at h
    split at h <;> try cases h
    have := of_decide_eq_true h
    subst this
    exact pe_const (fun _ => rfl) (fun _ _ => .int _) pe_int
  | .ks x, e, h => by
    simp only [chkE] at h
    split at h <;> try cases h
    have := of_decide_eq_true h
    subst this
    exact pe_const (fun _ => rfl) (fun _ _ => .str _) pe_str
  | .gi n i, e, h => by
    simp only [chkE] at h
    split at h <;> try cases h
    simp only [Bool.and_eq_true, decide_eq_true_eq] at h
    obtain ⟨⟨h1, h2⟩, h3⟩ := h
    obtain ⟨g1, g2⟩ := O.gl h2
    obtain ⟨t, ht⟩ := O.pg.gi _ (List.contains_iff_mem.mp h3)
    exact pe_const (fun _ => rfl) (fun _ _ => .int _) (pe_glob g1 ht ⟨t, rfl⟩ g2)
  | .gs n x, e, h => by
    simp only [chkE] at h
    split at h <;> try cases h
    simp only [Bool.and_eq_true, decide_eq_true_eq] at h
    obtain ⟨⟨h1, h2⟩, h3⟩ := h
    obtain ⟨g1, g2⟩ := O.gl h2
    obtain ⟨t, ht⟩ := O.pg.gs _ (List.contains_iff_mem.mp h3)
    exact pe_const (fun _ => rfl) (fun _ _ => .str _) (pe_glob g1 ht ⟨t, rfl⟩ g2)
  | .bin op a b, e, h => by
    simp only [chkE] at h
    split at h <;> try cases h
    simp only [Bool.and_eq_true, decide_eq_true_eq] at h
    obtain ⟨⟨h1, h2⟩, h3⟩ := h
    subst h1
    exact PE_imp (pe_op (op_bin_ok op) (sndE O tk a _ h2) (sndE O tk b _ h3)) fun σ H Q q => tOp_of q
  | .neg a, e, h => by
    simp only [chkE] at h
    split at h <;> try cases h
    refine PE_imp (pe_un un_neg (sndE O tk a _ h)) fun σ H Q q => (tM_bnd (R' := RelW X.K) q).imp fun v H1 ⟨m1, ρ, L1, w, S1, F1, r1, q1⟩ => ?_
    cases w <;> try exact False.elim q1
    cases r1
    exact ⟨_, rfl, run_val q1 S1 (.int _)⟩
  | .cmp op a b, e, h => by
    simp only [chkE] at h
    split at h <;> try cases h
    simp only [Bool.and_eq_true, decide_eq_true_eq] at h
    obtain ⟨⟨h1, h2⟩, h3⟩ := h
    subst h1
    exact PE_imp (pe_cmpR (op_cmp_ok (T := T) (Xw := ofW Wx) (hu64 O.room) op) (sndE O tk a _ h2) (sndE O tk b _ h3) (markE h3 _)) fun σ H Q q => tOp_of q
  | .chn o1 o2 a b d, e, h => by
    simp only [chkE] at h
    split at h <;> try cases h
    simp only [Bool.and_eq_true, decide_eq_true_eq] at h
    obtain ⟨⟨⟨⟨h1, h2⟩, h3⟩, h4⟩, h5⟩ := h
    subst h1 h2
    refine PE_imp (pe_chain (op_cmp_ok (T := T) (Xw := ofW Wx) (hu64 O.room) o1) (op_cmp_ok (T := T) (Xw := ofW Wx) (hu64 O.room) o2) (sndE O tk a _ h3) (sndE O tk b _ h4) (sndE O tk d _ h5) (by show behindInMarks _ _ = false; exact markE h5 _)) fun σ H Q q => ?_
    refine (tM_bnd (R' := RelW X.K) q).imp fun v H1 ⟨m1, ρ, L1, x, S1, F1, r1, q1⟩ => ⟨m1, ρ, L1, S1, F1, (run_bnd (R' := RelW X.K) q1).imp fun v2 H2 ⟨m2, L2, y, e2, S2, r2, q2⟩ => ?_⟩
    refine ⟨σ, m2, L2, x, y, S2, r1.mono e2, r2, (run_bnd (R' := RelW X.K) q2).imp fun v3 H3 ⟨m3, L3, z, e3, S3, r3, q3⟩ => ?_⟩
    cases z <;> try exact False.elim q3
    rename_i k
    cases r3
    refine ⟨k, rfl, ?_⟩
    cases k
    · rw [if_neg (by simp)]
      exact run_val q3 S3 (.bl _)
    · rw [if_pos rfl]
      exact ⟨m3, ρ, L3, S3, (F1.mono e2).mono e3, (run_bnd (R' := RelW X.K) q3).imp fun v4 H4 ⟨m4, L4, z4, e4, S4, r4, q4⟩ => ⟨σ, m4, L4, y, z4, S4, (r2.mono e3).mono e4, r4, q4⟩⟩
  | .band xs, e, h => by
    simp only [chkE] at h
    split at h <;> try cases h
    simp only [Bool.and_eq_true] at h
    exact sndAnd O tk xs _ _ h.1 (by simpa using h.2)
  | .bor xs, e, h => by
    simp only [chkE] at h
    split at h <;> try cases h
    simp only [Bool.and_eq_true] at h
    exact sndOr O tk xs _ _ h.1 (by simpa using h.2)
  | .bnot a, e, h => by
    simp only [chkE] at h
    split at h <;> try cases h
    have ha := sndE O tk a _ h
    refine ⟨fun pins s σ H Q I q => ?_⟩
    refine UnaryOp_ (thn (ha.run pins s σ H (fun v H1 => rOT (T.g X) (ofW Wx) truth v H1 fun k H2 => Q (.bl (!k)) H2) I ((tM_bnd (R' := RelW X.K) q).imp fun v H1 ⟨m1, ρ, L1, w, S1, F1, r1, q1⟩ => ?_)) fun u s1 ⟨x, H1, I1, r1, q1⟩ => ?_)
    · refine ⟨σ, m1, L1, w, S1, r1, ?_⟩
      exact (run_bnd (R' := RB) q1).imp fun k H2 ⟨m2, L2, b, e2, S2, eb, q2⟩ => by
        have eb : b = k := eb
        subst eb
        exact run_val q2 S2 (.bl _)
    · exact not_of (thn (tru_ok' pins s1 σ H1 x u _ I1 r1 q1) fun k s2 ⟨H2, I2, q2⟩ => ⟨.bl (!k), H2, I2, rfl, q2⟩)
  | .ifx t a b, e, h => by
    simp only [chkE] at h
    split at h <;> try cases h
    simp only [Bool.and_eq_true] at h
    refine PE_imp (pe_ifExp (sndT O tk t _ h.1.1) (sndE O tk a _ h.1.2) (sndE O tk b _ h.2)) fun σ H Q q => ?_
    refine (tM_bnd (R' := RB) q).imp fun k H1 ⟨m1, ρ, L1, w, S1, F1, r1, q1⟩ => ?_
    have r1 : w = k := r1
    subst r1
    rcases run_if q1 with ⟨c1, q2⟩ | ⟨c1, q2⟩
    · rw [if_pos c1]; exact ⟨m1, ρ, L1, S1, F1, q2⟩
    · rw [if_neg c1]; exact ⟨m1, ρ, L1, S1, F1, q2⟩
  | .sub a i, e, h => by
    simp only [chkE] at h
    split at h <;> try cases h
    simp only [Bool.and_eq_true] at h
    exact PE_imp (pe_ix ix_ok (sndE O tk a _ h.1) (sndE O tk i _ h.2) (ixplain h.2)) fun σ H Q q => tOp_of q
  | .slc a lo hi, e, h => by
    simp only [chkE] at h
    split at h <;> try cases h
    simp only [Bool.and_eq_true] at h
    refine PE_imp (pe_slice (sl_ok (T := T) (Xw := ofW Wx) rfl) (sndE O tk a _ h.1.1) (sndO O tk lo _ h.1.2) (sndO O tk hi _ h.2)) fun σ H Q q => ?_
    refine (tM_bnd (R' := RelW X.K) q).imp fun v H1 ⟨m1, ρ, L1, x, S1, F1, r1, q1⟩ => ⟨m1, ρ, L1, S1, F1, (run_bnd (R' := fun _ _ (x y : Option Int) => x = y) q1).imp fun l H2 ⟨m2, L2, y, e2, S2, r2, q2⟩ => ?_⟩
    refine ⟨m2, ρ, L2, S2, F1.mono e2, (run_bnd (R' := fun _ _ (x y : Option Int) => x = y) q2).imp fun u H3 ⟨m3, L3, z, e3, S3, r3, q3⟩ => ?_⟩
    have r2 : y = l := r2
    have r3 : z = u := r3
    subst r2 r3
    exact ⟨σ, m3, L3, x, S3, (r1.mono e2).mono e3, q3⟩
  | .lst xs, e, h => by
    simp only [chkE] at h
    split at h <;> try cases h
    refine PE_imp (pe_lst (sndEs O tk xs _ h)) fun σ H Q q => ?_
    refine (tM_bnd (R' := RelWs X.K) q).imp fun vs H1 ⟨m1, ρ, L1, ws, S1, F1, r1, q1⟩ => ?_
    rcases run_if q1 with ⟨c1, q2⟩ | ⟨c1, q2⟩
    · exact ⟨by rw [← r1.length]; exact lenOk_le c1, fun p hp => run_new q2 S1 r1 hp⟩
    · exact q2.elim
  | .tup xs, e, h => by
    simp only [chkE] at h
    split at h <;> try cases h
    refine PE_imp (pe_tup (sndEs O tk xs _ h)) fun σ H Q q => ?_
    refine (tM_bnd (R' := RelWs X.K) q).imp fun vs H1 ⟨m1, ρ, L1, ws, S1, F1, r1, q1⟩ => ?_
    rcases run_if q1 with ⟨c1, q2⟩ | ⟨c1, q2⟩
    · exact ⟨by rw [← r1.length]; exact lenOk_le c1, fun p hp => run_tup q2 S1 r1 hp⟩
    · exact q2.elim
  | .call t xs ys, e, h => by
    simp only [chkE] at h
    split at h <;> try cases h
    split at h <;> try cases h
    rename_i y ps es ks pos _ g hg
    simp only [Bool.and_eq_true, decide_eq_true_eq, beq_iff_eq] at h
    obtain ⟨⟨⟨⟨⟨h1, h2⟩, h3⟩, h4⟩, h5⟩, h6⟩ := h
    obtain ⟨g1, g2⟩ := O.gl h2
    obtain ⟨f, f1, f2, f3⟩ := O.tg t g hg
    rw [← h1] at f1
    exact pe_target tk O.room g1 g2 f1 f2 f3 h3 (chkEs_len h5) (by simpa using chkEs_len h6) h4 (sndEs O tk xs _ h5) (sndKs O tk ys ks h6) (chkEs_star h5) (fun env => chkEs_head h5 env)
  | .bi b xs, e, h => by
    simp only [chkE] at h
    split at h <;> try cases h
    rename_i y ps es pos
    simp only [Bool.and_eq_true] at h
    obtain ⟨⟨h1, h2⟩, h3⟩ := h
    cases es with
    | nil => simp at h2
    | cons e es => exact pe_bi O h1 h3 (sndEs O tk xs _ h3)
  | .met m o xs, e, h => by
    simp only [chkE] at h
    split at h <;> try cases h
    simp only [Bool.and_eq_true, decide_eq_true_eq] at h
    obtain ⟨⟨⟨⟨⟨⟨h1, h2⟩, h3⟩, h4⟩, h5⟩, h6⟩, h7⟩ := h
    subst h1
    exact pe_met h2 h3 h4 h5 h7 (sndE O tk o _ h6) (sndEs O tk xs _ h7)
  | .lc own t it cs x, e, h => by
    simp only [chkE] at h
    split at h <;> try cases h
    simp only [Bool.and_eq_true, decide_eq_true_eq] at h
    obtain ⟨⟨⟨⟨⟨⟨⟨⟨h1, h2⟩, h3⟩, h4⟩, h5⟩, h6⟩, h7⟩, h8⟩, h9⟩ := h
    subst h1
    exact pe_lcx O h4 h2 (sndI O tk it _ _ h5) (fun s H Cc cl fp => sndG (O.blk h3 s H Cc cl fp) takes0 t _ h6) (fun s H Cc cl fp => sndTs (O.blk h3 s H Cc cl fp) takes0 cs _ h8 h7)
      (fun s H Cc cl fp => sndE (O.blk h3 s H Cc cl fp) takes0 x _ h9) (noSet h5 X.env)
  | .fld o f, e, h => by simp [chkE] at h
  | .prp o f, e, h => by simp [chkE] at h
  | .mcall m o xs ys, e, h => by simp [chkE] at h
  | .mk m xs ys, e, h => by simp [chkE] at h
  | .isi x cl, e, h => by
    simp only [chkE] at h
    split at h <;> try cases h
    simp only [Bool.and_eq_true] at h
    obtain ⟨⟨h1, h2⟩, h3⟩ := h
    cases cl with
    | own c => cases h3
    | ty s =>
      simp only [Bool.and_eq_true] at h3
      exact pe_isi' O h1 h3.1 h3.2 h2 (sndE O tk x _ h2)
  | .isis x cs, e, h => by
    simp only [chkE] at h
    split at h <;> try cases h
    simp only [Bool.and_eq_true] at h
    exact pe_isis' O h.1.1 h.2 h.1.2 (sndE O tk x _ h.1.2)
  | .srtset x, e, h => by
    simp only [chkE] at h
    split at h <;> try cases h
    simp only [Bool.and_eq_true] at h
    exact pe_srtset O h.1.1 h.1.2 h.2 (sndE O tk x _ h.2)
  | .lenset x, e, h => by simp [chkE] at h
theorem sndTs {c : Dc} {X : Cx} {Wx : WX} (O : Ok T p C c X d) (tk : Takes X Wx) : ∀ (cs : List Tx) (ifs : List Expr), ifs.length ≤ 1 → chkTs p c cs ifs = true → PTs X ifs (tM (T.g X) Wx RB fun ρ => tsAnd C ρ cs)
  | [], ifs, hl, h => pts_ok hl h fun t ht => by simp at ht
  | t :: cs, ifs, hl, h => pts_ok1 hl h fun e he => sndT O tk t e he
theorem sndI {c : Dc} {X : Cx} {Wx : WX} (O : Ok T p C c X d) (tk : Takes X Wx) : ∀ (it : It) (tg e : Expr), chkI p c it tg e = true → PI X tg e (tI T C Wx X it)
  | .e x, tg, e, h => pi_e (sndE O tk x e h)
  | .rng xs, tg, e, h => by
    simp only [chkI] at h
    split at h <;> try cases h
    simp only [Bool.and_eq_true] at h
    obtain ⟨⟨h1, h2⟩, h3⟩ := h
    have ha := sndEs O tk xs _ h2
    exact pi_rngs O h1 h2 h3 ha
  | .enum x, tg, e, h => by
    simp only [chkI] at h
    split at h <;> try cases h
    simp only [Bool.and_eq_true] at h
    exact pi_en O h.1 h.2 (sndE O tk x _ h.2)
  | .zip x y, tg, e, h => by
    simp only [chkI] at h
    split at h <;> try cases h
    simp only [Bool.and_eq_true] at h
    exact pi_zp O h.1.1 h.1.2 h.2 (sndE O tk x _ h.1.2) (sndE O tk y _ h.2)
theorem sndG {c : Dc} {X : Cx} {Wx : WX} (O : Ok T p C c X d) (tk : Takes X Wx) : ∀ (t : Tgt) (e : Expr), chkG p c t e = true → PG X e (tG T C Wx X t)
  | .nm i, e, h => by
    simp only [chkG] at h
    split at h <;> try cases h
    simp only [Bool.and_eq_true, decide_eq_true_eq] at h
    obtain ⟨⟨h1, h2⟩, h3⟩ := h
    exact pg_nm O h1 h2 h3
  | .tup ts, e, h => by
    simp only [chkG] at h
    split at h <;> try cases h
    simp only [Bool.and_eq_true] at h
    exact pg_tp O h.1 h.2 (sndGs O tk ts _ h.1 h.2)
  | .sub o i, e, h => by
    simp only [chkG] at h
    split at h <;> try cases h
    simp only [Bool.and_eq_true] at h
    exact pg_sb h.2 (sndE O tk o _ h.1) (sndE O tk i _ h.2)
  | .fld o f, e, h => by simp [chkG] at h
theorem sndGs {c : Dc} {X : Cx} {Wx : WX} (O : Ok T p C c X d) (tk : Takes X Wx) : ∀ (ts : List Tgt) (es : List Expr), tgPls ts = true → chkGs p c ts es = true → PGs X es (tGs T C Wx X ts)
  | [], es, hp, h => by
    cases es with
    | cons e es => simp [chkGs] at h
    | nil => exact pgs_nl
  | t :: ts, es, hp, h => by
    cases es with
    | nil => simp [chkGs] at h
    | cons e es =>
      simp only [chkGs, Bool.and_eq_true] at h
      simp only [tgPls, Bool.and_eq_true] at hp
      exact pgs_cn hp.1 hp.2 h.1 (sndG O tk t e h.1) (sndGs O tk ts es hp.2 h.2)
theorem sndEs {c : Dc} {X : Cx} {Wx : WX} (O : Ok T p C c X d) (tk : Takes X Wx) : ∀ (xs : List Ex) (es : List Expr), chkEs p c xs es = true → PA X es (tA T C Wx X xs)
  | [], es, h => by
    cases es with
    | cons e es => simp [chkEs] at h
    | nil => exact PA_imp pa_nil fun σ H Q ⟨m, ρ, L, S, F, q⟩ => run_ret (R := RelWs X.K) q S .nil
  | x :: xs, es, h => by
    cases es with
    | nil => simp [chkEs] at h
    | cons e es =>
      simp only [chkEs, Bool.and_eq_true] at h
      refine PA_imp (pa_cons (sndE O tk x _ h.1) (sndEs O tk xs _ h.2) (star_plain h.1 es X.env)) fun σ H Q q => ?_
      exact (tM_bnd (R' := RelW X.K) q).imp fun v H1 ⟨m1, ρ, L1, w, S1, F1, r1, q1⟩ => ⟨m1, ρ, L1, S1, F1, (run_bnd (R' := RelWs X.K) q1).imp fun vs H2 ⟨m2, L2, ws, e2, S2, r2, q2⟩ => run_ret (R := RelWs X.K) q2 S2 (.cons (r1.mono e2) r2)⟩
theorem sndKs {c : Dc} {X : Cx} {Wx : WX} (O : Ok T p C c X d) (tk : Takes X Wx) : ∀ (xs : List Ex) (ks : List Keyword), chkEs p c xs (ks.map (·.value)) = true → PK X ks (tA T C Wx X xs)
  | [], ks, h => by
    cases ks with
    | cons e es => simp [chkEs] at h
    | nil => exact ⟨fun pos pins s σ H Q I ⟨m, ρ, L, S, F, q⟩ => pk_nil.run pos pins s σ H Q I (run_ret (R := RelWs X.K) q S .nil)⟩
  | x :: xs, ks, h => by
    cases ks with
    | nil => simp [chkEs] at h
    | cons k ks =>
      obtain ⟨nm, e, kp⟩ := k
      simp only [List.map_cons, chkEs, Bool.and_eq_true] at h
      refine ⟨fun pos pins s σ H Q I q => (pk_cons (sndE O tk x _ h.1) (sndKs O tk xs ks h.2)).run pos pins s σ H Q I ?_⟩
      exact (tM_bnd (R' := RelW X.K) q).imp fun v H1 ⟨m1, ρ, L1, w, S1, F1, r1, q1⟩ => ⟨m1, ρ, L1, S1, F1, (run_bnd (R' := RelWs X.K) q1).imp fun vs H2 ⟨m2, L2, ws, e2, S2, r2, q2⟩ => run_ret (R := RelWs X.K) q2 S2 (.cons (r1.mono e2) r2)⟩
theorem sndO {c : Dc} {X : Cx} {Wx : WX} (O : Ok T p C c X d) (tk : Takes X Wx) : ∀ (x : Option Ex) (e : Option Expr), chkO p c x e = true → PO X e (tM (T.g X) Wx (fun _ _ (x y : Option Int) => x = y) fun ρ => evO C ρ x)
  | none, e, h => by
    cases e with
    | some e => simp [chkO] at h
    | none => exact ⟨fun pins s σ H Q I ⟨m, ρ, L, S, F, q⟩ => po_none.run pins s σ H Q I (run_ret (R := fun _ _ (x y : Option Int) => x = y) q S rfl)⟩
  | some x, e, h => by
    cases e with
    | none => simp [chkO] at h
    | some e =>
      simp only [chkO] at h
      refine ⟨fun pins s σ H Q I q => (po_some (sndE O tk x _ h)).run pins s σ H Q I ?_⟩
      refine (tM_bnd (R' := RelW X.K) q).imp fun v H1 ⟨m1, ρ, L1, w, S1, F1, r1, q1⟩ => ?_
      cases w <;> try exact False.elim q1
      cases r1
      exact ⟨_, rfl, run_ret (R := fun _ _ (x y : Option Int) => x = y) q1 S1 rfl⟩
theorem sndAnd {c : Dc} {X : Cx} {Wx : WX} (O : Ok T p C c X d) (tk : Takes X Wx) : ∀ (xs : List Ex) (es : List Expr) (pos : Pos), chkEs p c xs es = true → es ≠ [] → PE X (.BoolOp .And es pos) (tM (T.g X) Wx (RelW X.K) fun ρ => evAnd C ρ xs)
  | [], es, pos, h, hn => by
    cases es with
    | cons e es => simp [chkEs] at h
    | nil => exact absurd rfl hn
  | x :: xs, es, pos, h, hn => by
    cases es with
    | nil => exact absurd rfl hn
    | cons e es =>
      simp only [chkEs, Bool.and_eq_true] at h
      cases es with
      | nil =>
        cases xs with
        | cons x2 xs => simp [chkEs] at h
        | nil => exact PE_imp (pe_one (sndE O tk x _ h.1)) fun σ H Q q => (tM_bnd (R' := RelW X.K) q).imp fun v H1 ⟨m1, ρ, L1, w, S1, F1, r1, q1⟩ => run_val q1 S1 r1
      | cons e2 es =>
        cases xs with
        | nil => simp [chkEs] at h
        | cons x2 xs =>
          refine PE_imp (pe_and (sndE O tk x _ h.1) (sndAnd O tk (x2 :: xs) (e2 :: es) pos h.2 (by simp))) fun σ H Q q => ?_
          refine (tM_bnd (R' := RelW X.K) q).imp fun v H1 ⟨m1, ρ, L1, w, S1, F1, r1, q1⟩ => ?_
          rw [if_neg (by simp)] at q1
          cases w <;> try exact False.elim q1
          rename_i k
          cases r1
          refine ⟨k, rfl, ?_⟩
          cases k
          · rw [if_neg (by simp)]; exact run_val q1 S1 (.bl _)
          · rw [if_pos rfl]; exact ⟨m1, ρ, L1, S1, F1, q1⟩
theorem sndOr {c : Dc} {X : Cx} {Wx : WX} (O : Ok T p C c X d) (tk : Takes X Wx) : ∀ (xs : List Ex) (es : List Expr) (pos : Pos), chkEs p c xs es = true → es ≠ [] → PE X (.BoolOp .Or es pos) (tM (T.g X) Wx (RelW X.K) fun ρ => evOr C ρ xs)
  | [], es, pos, h, hn => by
    cases es with
    | cons e es => simp [chkEs] at h
    | nil => exact absurd rfl hn
  | x :: xs, es, pos, h, hn => by
    cases es with
    | nil => exact absurd rfl hn
    | cons e es =>
      simp only [chkEs, Bool.and_eq_true] at h
      cases es with
      | nil =>
        cases xs with
        | cons x2 xs => simp [chkEs] at h
        | nil => exact PE_imp (pe_one (sndE O tk x _ h.1)) fun σ H Q q => (tM_bnd (R' := RelW X.K) q).imp fun v H1 ⟨m1, ρ, L1, w, S1, F1, r1, q1⟩ => run_val q1 S1 r1
      | cons e2 es =>
        cases xs with
        | nil => simp [chkEs] at h
        | cons x2 xs =>
          refine PE_imp (pe_or (sndE O tk x _ h.1) (sndOr O tk (x2 :: xs) (e2 :: es) pos h.2 (by simp))) fun σ H Q q => ?_
          refine (tM_bnd (R' := RelW X.K) q).imp fun v H1 ⟨m1, ρ, L1, w, S1, F1, r1, q1⟩ => ?_
          rw [if_neg (by simp)] at q1
          cases w <;> try exact False.elim q1
          rename_i k
          cases r1
          refine ⟨k, rfl, ?_⟩
          cases k
          · rw [if_neg (by simp)]; exact ⟨m1, ρ, L1, S1, F1, q1⟩
          · rw [if_pos rfl]; exact run_val q1 S1 (.bl _)
theorem sndT {c : Dc} {X : Cx} {Wx : WX} (O : Ok T p C c X d) (tk : Takes X Wx) : ∀ (x : Tx) (e : Expr), chkT p c x e = true → PT X e (tT T C Wx X x)
  | .val x, e, h => by
    have hc : chkE p c x e = true := by
      simp only [chkT] at h
      split at h <;> first | exact h | cases h
    have he : ∀ whole, isTrue e X.env whole = (do let v ← whole; standAt e.pos; holding [v] (truthy v)) := by
      intro whole
      simp only [chkT] at h
      split at h <;> first | (cases h; done) | skip
      rename_i n1 n2 n3 n4
      cases e <;> first | rfl | exact absurd rfl (n1 _ _ _) | exact absurd rfl (n2 _ _ _ _) | exact absurd rfl (n3 _ _ _ _) | skip
      rename_i op _ _
      cases op <;> first | rfl | exact absurd rfl (n4 _ _)
    refine ⟨fun pins s σ H Q I q => ?_⟩
    exact isTrue_plain (thn ((sndE O tk x _ hc).run pins s σ H _ I (tOp_tru q)) fun v s1 ⟨x, H1, I1, r1, q1⟩ => tru_ok' pins s1 σ H1 x v Q I1 r1 q1) (he _)
  | .bv x, e, h => by
    cases e <;> simp only [chkT] at h <;> try cases h
    cases x <;> simp only [chkE] at h <;> try cases h
    · rename_i op a b
      split at h <;> try cases h
      rename_i heq
      injection heq with e1 e2 e3 e4
      subst e1 e2 e3 e4
      simp only [Bool.and_eq_true, decide_eq_true_eq] at h
      obtain ⟨⟨h1, h2⟩, h3⟩ := h
      subst h1
      refine PT_imp (pt_cmpR (op_cmp_ok (T := T) (Xw := ofW Wx) (hu64 O.room) op) (sndE O tk a _ h2) (sndE O tk b _ h3) (markE h3 _)) fun σ H Q q => ?_
      have q2 := tOp_bv q
      exact tOp_of q2
    · rename_i o1 o2 a b d
      split at h <;> try cases h
      rename_i heq
      injection heq with e1 e2 e3 e4
      subst e1 e2 e3 e4
      simp only [Bool.and_eq_true, decide_eq_true_eq] at h
      obtain ⟨⟨⟨⟨h1, h2⟩, h3⟩, h4⟩, h5⟩ := h
      subst h1 h2
      refine PT_imp (pt_chain (op_cmp_ok (T := T) (Xw := ofW Wx) (hu64 O.room) o1) (op_cmp_ok (T := T) (Xw := ofW Wx) (hu64 O.room) o2) (sndE O tk a _ h3) (sndE O tk b _ h4) (sndE O tk d _ h5) (by show behindInMarks _ _ = false; exact markE h5 _)) fun σ H Q q => ?_
      have q := tOp_bv q
      refine (tM_bnd (R' := RelW X.K) q).imp fun v H1 ⟨m1, ρ, L1, x, S1, F1, r1, q1⟩ => ⟨m1, ρ, L1, S1, F1, (run_bnd (R' := RelW X.K) q1).imp fun v2 H2 ⟨m2, L2, y, e2, S2, r2, q2⟩ => ?_⟩
      refine ⟨σ, m2, L2, x, y, S2, r1.mono e2, r2, (run_bnd (R' := RelW X.K) q2).imp fun v3 H3 ⟨m3, L3, z, e3, S3, r3, q3⟩ => ?_⟩
      cases z <;> try exact False.elim q3
      rename_i k
      cases r3
      refine ⟨k, rfl, ?_⟩
      cases k
      · rw [if_neg (by simp)]
        exact run_val q3 S3 (.bl _)
      · rw [if_pos rfl]
        exact ⟨m3, ρ, L3, S3, (F1.mono e2).mono e3, (run_bnd (R' := RelW X.K) q3).imp fun v4 H4 ⟨m4, L4, z4, e4, S4, r4, q4⟩ => ⟨σ, m4, L4, y, z4, S4, (r2.mono e3).mono e4, r4, q4⟩⟩
  | .all ts, e, h => by
    simp only [chkT] at h
    split at h <;> try cases h
    simp only [Bool.and_eq_true] at h
    exact (sndAll O tk ts _ _ h.1 (by simpa using h.2)).pt
  | .any ts, e, h => by
    simp only [chkT] at h
    split at h <;> try cases h
    simp only [Bool.and_eq_true] at h
    exact (sndAny O tk ts _ _ h.1 (by simpa using h.2)).pt
  | .nt t, e, h => by
    simp only [chkT] at h
    split at h <;> try cases h
    refine PT_imp (pt_not (sndT O tk t _ h)) fun σ H Q q => ?_
    exact (tM_bnd (R' := RB) q).imp fun v H1 ⟨m1, ρ, L1, w, S1, F1, r1, q1⟩ => by
      have r1 : w = v := r1
      subst r1
      exact run_ret (R := RB) q1 S1 rfl
theorem sndAll {c : Dc} {X : Cx} {Wx : WX} (O : Ok T p C c X d) (tk : Takes X Wx) : ∀ (xs : List Tx) (es : List Expr) (pos : Pos), chkTs p c xs es = true → es ≠ [] → PW X (.BoolOp .And es pos) (tM (T.g X) Wx RB fun ρ => tsAnd C ρ xs)
  | [], es, pos, h, hn => by
    cases es with
    | cons e es => simp [chkTs] at h
    | nil => exact absurd rfl hn
  | x :: xs, es, pos, h, hn => by
    cases es with
    | nil => exact absurd rfl hn
    | cons e es =>
      simp only [chkTs, Bool.and_eq_true] at h
      cases es with
      | nil =>
        cases xs with
        | cons x2 xs => simp [chkTs] at h
        | nil =>
          refine PW_imp (pw_and1 (sndT O tk x _ h.1)) fun σ H Q q => (tM_bnd (R' := RB) q).imp fun k H1 ⟨m1, ρ, L1, w, S1, F1, r1, q1⟩ => ?_
          have r1 : w = k := r1
          subst r1
          cases w
          · rw [if_neg (by simp)] at q1; exact run_ret (R := RB) q1 S1 rfl
          · rw [if_pos rfl] at q1; exact run_ret (R := RB) q1 S1 rfl
      | cons e2 es =>
        cases xs with
        | nil => simp [chkTs] at h
        | cons x2 xs =>
          refine PW_imp (pw_and (sndT O tk x _ h.1) (sndAll O tk (x2 :: xs) (e2 :: es) pos h.2 (by simp))) fun σ H Q q => ?_
          refine (tM_bnd (R' := RB) q).imp fun k H1 ⟨m1, ρ, L1, w, S1, F1, r1, q1⟩ => ?_
          have r1 : w = k := r1
          subst r1
          cases w
          · rw [if_neg (by simp)] at q1 ⊢; exact run_ret (R := RB) q1 S1 rfl
          · rw [if_pos rfl] at q1 ⊢; exact ⟨m1, ρ, L1, S1, F1, q1⟩
theorem sndAny {c : Dc} {X : Cx} {Wx : WX} (O : Ok T p C c X d) (tk : Takes X Wx) : ∀ (xs : List Tx) (es : List Expr) (pos : Pos), chkTs p c xs es = true → es ≠ [] → PW X (.BoolOp .Or es pos) (tM (T.g X) Wx RB fun ρ => tsOr C ρ xs)
  | [], es, pos, h, hn => by
    cases es with
    | cons e es => simp [chkTs] at h
    | nil => exact absurd rfl hn
  | x :: xs, es, pos, h, hn => by
    cases es with
    | nil => exact absurd rfl hn
    | cons e es =>
      simp only [chkTs, Bool.and_eq_true] at h
      cases es with
      | nil =>
        cases xs with
        | cons x2 xs => simp [chkTs] at h
        | nil =>
          refine PW_imp (pw_or1 (sndT O tk x _ h.1)) fun σ H Q q => (tM_bnd (R' := RB) q).imp fun k H1 ⟨m1, ρ, L1, w, S1, F1, r1, q1⟩ => ?_
          have r1 : w = k := r1
          subst r1
          cases w
          · rw [if_neg (by simp)] at q1; exact run_ret (R := RB) q1 S1 rfl
          · rw [if_pos rfl] at q1; exact run_ret (R := RB) q1 S1 rfl
      | cons e2 es =>
        cases xs with
        | nil => simp [chkTs] at h
        | cons x2 xs =>
          refine PW_imp (pw_or (sndT O tk x _ h.1) (sndAny O tk (x2 :: xs) (e2 :: es) pos h.2 (by simp))) fun σ H Q q => ?_
          refine (tM_bnd (R' := RB) q).imp fun k H1 ⟨m1, ρ, L1, w, S1, F1, r1, q1⟩ => ?_
          have r1 : w = k := r1
          subst r1
          cases w
          · rw [if_neg (by simp)] at q1 ⊢; exact ⟨m1, ρ, L1, S1, F1, q1⟩
          · rw [if_pos rfl] at q1 ⊢; exact run_ret (R := RB) q1 S1 rfl
end
end
end Dx

set_option maxRecDepth 100000
set_option maxHeartbeats 4000000
/-! Dx7: statements. -/
namespace Dx
open PySem PySem.Spec PyProof.Rows L2

def iopP : BOp → Operator := bopP
def noComp : Expr → Bool
  | .ListComp .. => false
  | .SetComp .. => false
  | .DictComp .. => false
  | _ => true
/-- not a pair of displays -/
def noSwap : Expr → Expr → Bool
  | .Tuple .., .Tuple .. => false
  | .List .., .Tuple .. => false
  | _, _ => true
/-- name = [..] on one line -/
def swB (c : Dc) (y : Str) (py : Pos) : Expr → Bool
  | .ListComp _ [⟨_, _, _, a⟩] scope pos => decide (a = 0) && (match c.sc.kind with
    | .function => true
    | _ => false) && (match c.sc.names.lookup y with
    | some .local => true
    | _ => false) && (py.line == pos.line) && !(scope.names.any fun (n, k) => n == y && (k == .local || k == .cell))
  | _ => false
mutual
def chkS (p : Pg) (c : Dc) : Sm → Stmt → Bool
  | .asg t x, s => (match s with
    | .Assign [tg] e _ => chkE p c x e && chkG p c t tg && noSwap tg e && (noComp e || (match t, tg with
      | .nm _, .Name y py => swB c y py e
      | _, _ => false))
    | _ => false)
  | .aug i op x, s => (match s with
    | .AugAssign (.Name y _) o e _ => decide (o = bopP op) && decide (c.N[i]? = some y) && locB c.sc y && c.asn.contains y && chkE p c x e
    | _ => false)
  | .augf _ _ _ _, s => false
  | .exp x, s => (match s with
    | .Expr e _ => chkE p c x e && noComp e
    | _ => false)
  | .ifs t a b, s => (match s with
    | .If e u v _ => chkT p c t e && chkSs p c a u && chkSs p c b v
    | _ => false)
  | .whl t b, s => (match s with
    | .While e u [] _ => chkT p c t e && chkSs p c b u
    | _ => false)
  | .fors t it b, s => (match s with
    | .For tg e u [] _ => chkI p c it tg e && chkG p c t tg && chkSs p c b u
    | _ => false)
  | .rtn x, s => (match s with
    | .Return (some e) _ => chkE p c x e
    | _ => false)
  | .rtnN, s => (match s with
    | .Return none _ => true
    | _ => false)
  | .pas, s => (match s with
    | .Pass _ => true
    | _ => false)
  | .brk, s => (match s with
    | .Break _ => true
    | _ => false)
  | .cnt, s => (match s with
    | .Continue _ => true
    | _ => false)
def chkSs (p : Pg) (c : Dc) : List Sm → List Stmt → Bool
  | [], ss => ss.isEmpty
  | x :: xs, ss => (match ss with
    | s :: ss => chkS p c x s && chkSs p c xs ss
    | [] => false)
end

/-- what a statement's end is to reach -/
def PostS (T : Tab) (W : WX) (X : Cx) (D : Ends) (m : List Addr) (H : Hp) (r : Fl × Fr) (L' : Hh) : Prop :=
  ∀ m' H', Ext m H m' H' → Sim (T.g X) m' L' H' → match r.1 with
    | .nx => ∀ σ', RelF X.K m' H' r.2 σ' → D.nx σ' H'
    | .rt w => ∀ v, RelW X.K m' H' w v → D.rt v H'
    | .bk => ∀ σ', RelF X.K m' H' r.2 σ' → D.bk σ' H'
    | .ct => ∀ σ', RelF X.K m' H' r.2 σ' → D.ct σ' H'
    | .ex e => ∀ σ' cls d, RelF X.K m' H' r.2 σ' → T.rx m' H' e cls d → W cls d σ' H'
theorem PostS.mono {T : Tab} {W : WX} {X : Cx} {D : Ends} {m m1 : List Addr} {H H1 : Hp} {r : Fl × Fr} {L' : Hh} (e : Ext m H m1 H1) (h : PostS T W X D m H r L') : PostS T W X D m1 H1 r L' := fun m' H' e' s => h m' H' (e.trans e') s
abbrev wpS (T : Tab) (W : WX) (X : Cx) (D : Ends) (m : List Addr) (H : Hp) (c : M (Fl × Fr)) (L : Hh) : Prop := wp c L (PostS T W X D m H) fun _ _ => True
theorem wpS.mono {T : Tab} {W : WX} {X : Cx} {D : Ends} {m m1 : List Addr} {H H1 : Hp} {c : M (Fl × Fr)} {L : Hh} (e : Ext m H m1 H1) (h : wpS T W X D m H c L) : wpS T W X D m1 H1 c L := wp_mono h (fun _ _ q => q.mono e) fun _ _ q => q
def tS (T : Tab) (W : WX) (X : Cx) (f : Fr → M (Fl × Fr)) : TS := fun D σ H => ∃ m ρ L, Sim (T.g X) m L H ∧ RelF X.K m H ρ σ ∧ wpS T W X D m H (f ρ) L
section
variable {T : Tab} {p : Pg} {C : Env} {c : Dc} {X : Cx} {d : Nat} {W : WX}
theorem PS_imp {s : Stmt} {t t' : TS} (h : PS X s t) (k : ∀ D σ H, t' D σ H → t D σ H) : PS X s t' := ⟨fun pins st σ H D I q => h.run pins st σ H D I (k D σ H q)⟩
theorem PSs_imp {s : List Stmt} {t t' : TS} (h : PSs X s t) (k : ∀ D σ H, t' D σ H → t D σ H) : PSs X s t' := ⟨fun pins st σ H D I q => h.run pins st σ H D I (k D σ H q)⟩
theorem wpS_sx {γ δ : Type} {R' : List Addr → Hp → γ → δ → Prop} {D : Ends} {m : List Addr} {H : Hp} {L : Hh} {ρ : Fr} {σ : L2.St} {a : M γ} {k : γ → M (Fl × Fr)} (F : RelF X.K m H ρ σ) (h : wpS T W X D m H (sx ρ a k) L) :
    run (T.g X) (ofW W) σ R' a m H L (fun v H1 => ∃ m1 L1 x, Ext m H m1 H1 ∧ Sim (T.g X) m1 L1 H1 ∧ R' m1 H1 x v ∧ wpS T W X D m1 H1 (k x) L1) := by
  unfold wpS at h
  rw [wp_sx] at h
  exact wp_mono h (fun x L1 q m1 H1 v e s r => ⟨m1, L1, x, e, s, r, wpS.mono e q⟩) fun e L1 q m1 H1 cls dd ex s r => q m1 H1 ex s σ cls dd (F.mono ex) r
theorem tS_sx {γ δ : Type} {R' : List Addr → Hp → γ → δ → Prop} {D : Ends} {H : Hp} {σ : L2.St} {a : Fr → M γ} {k : Fr → γ → M (Fl × Fr)} (h : tS T W X (fun ρ => sx ρ (a ρ) (k ρ)) D σ H) :
    tM (T.g X) W R' a σ H (fun v H1 => ∃ m1 ρ L1 x, Sim (T.g X) m1 L1 H1 ∧ RelF X.K m1 H1 ρ σ ∧ R' m1 H1 x v ∧ wpS T W X D m1 H1 (k ρ x) L1) :=
  let ⟨m, ρ, L, S, F, q⟩ := h
  ⟨m, ρ, L, S, F, (wpS_sx F q).imp fun v H1 ⟨m1, L1, x, e, S1, r, q1⟩ => ⟨m1, ρ, L1, x, S1, F.mono e, r, q1⟩⟩
theorem wpS_nx {D : Ends} {m : List Addr} {H : Hp} {L : Hh} {ρ : Fr} {σ : L2.St} (S : Sim (T.g X) m L H) (F : RelF X.K m H ρ σ) (h : wpS T W X D m H (ret (.nx, ρ)) L) : D.nx σ H := h m H (Ext.refl m H) S σ F
theorem wpS_bnd {D : Ends} {m : List Addr} {H : Hp} {L : Hh} {a : M (Fl × Fr)} {k : Fl × Fr → M (Fl × Fr)} (h : wpS T W X D m H (bnd a k) L) : wp a L (fun r L1 => wpS T W X D m H (k r) L1) fun _ _ => True := by
  unfold wpS at h
  rw [wp_bnd] at h
  exact h
/-- the ends of a loop's body -/
theorem post_body {D : Ends} {N : L2.St → Hp → Prop} {m : List Addr} {H : Hp} {r : Fl × Fr} {L' : Hh} {next : Fr → M (Fl × Fr)} (hN : ∀ m' ρ H' σ', Sim (T.g X) m' L' H' → RelF X.K m' H' ρ σ' → Ext m H m' H' → wpS T W X D m' H' (next ρ) L' → N σ' H')
    (h : wpS T W X D m H (match r.1 with
      | .nx => next r.2
      | .ct => next r.2
      | .bk => ret (.nx, r.2)
      | .rt w => ret (.rt w, r.2)
      | .ex e => ret (.ex e, r.2)) L') : PostS T W X { D with nx := N, ct := N, bk := D.nx } m H r L' := by
  obtain ⟨f, ρ⟩ := r
  cases f with
  | nx => exact fun m' H' e S σ' F => hN m' ρ H' σ' S F e (h.mono e)
  | ct => exact fun m' H' e S σ' F => hN m' ρ H' σ' S F e (h.mono e)
  | bk => exact fun m' H' e S σ' F => h m' H' e S σ' F
  | rt w => exact fun m' H' e S v r => h m' H' e S v r
  | ex x => exact fun m' H' e S σ' cls dd F r => h m' H' e S σ' cls dd F r
theorem ps_wh {t : Tx} {b : List Sm} {e : Expr} {u : List Stmt} {pos : Pos} (hp : PassesOwn (model X.prog X.w) X.A X.env X.xe) (h1 : PT X e (tT T C W X t)) (h2 : PSs X u (tS T W X fun ρ => exSs C b ρ)) : PS X (.While e u [] pos) (tS T W X fun ρ => exS C (.whl t b) ρ) := by
  refine PS_imp (ps_while hp h1 h2) fun D σ H ⟨m, ρ, L, S, F, q⟩ => ?_
  refine ⟨fun n σ H => tS T W X (fun ρ => loopW (fun ρ => evT C ρ t) (fun ρ => exSs C b ρ) n ρ) D σ H, ⟨fuel, m, ρ, L, S, F, q⟩, fun n σ H w => ?_⟩
  cases n with
  | zero => obtain ⟨m, ρ, L, S, F, q⟩ := w; exact False.elim q
  | succ n =>
    refine (tS_sx (R' := RB) w).imp fun v H1 ⟨m1, ρ, L1, x, S1, F1, r1, q1⟩ => ?_
    have r1 : x = v := r1
    subst r1
    cases x with
    | false => rw [if_neg (by simp)] at q1 ⊢; exact wpS_nx S1 F1 q1
    | true =>
      rw [if_pos rfl] at q1 ⊢
      refine ⟨fun σ H => tS T W X (fun ρ => loopW (fun ρ => evT C ρ t) (fun ρ => exSs C b ρ) n ρ) D σ H, fun σ' H' w => ⟨n, Nat.lt_succ_self n, w⟩, m1, ρ, L1, S1, F1, ?_⟩
      exact wp_mono (wpS_bnd q1) (fun r L' z => post_body (fun m' ρ H' σ' S F e z => ⟨m', ρ, L', S, F, z⟩) z) fun _ _ z => z
theorem ps_fr {t : Tgt} {it : It} {b : List Sm} {tg e : Expr} {u : List Stmt} {pos : Pos} (hp : PassesOwn (model X.prog X.w) X.A X.env X.xe) (hc : X.calm = true) (h1 : PI X tg e (tI T C W X it)) (hg : PG X tg (tG T C W X t)) (h2 : PSs X u (tS T W X fun ρ => exSs C b ρ)) (hs : ∀ v, foldedSetIterable e X.env v = pure v) :
    PS X (.For tg e u [] pos) (tS T W X fun ρ => exS C (.fors t it b) ρ) := by
  refine PS_imp (ps_for hp hc h1 hg h2 hs) fun D σ H q => ?_
  refine (tS_sx (R' := SrcOk (T.g X)) q).imp fun J H1 ⟨m1, ρ, L1, s, S1, F1, sk, q1⟩ => ?_
  refine ⟨fun i n σ H => ∃ m ρ L, Ext m1 H1 m H ∧ Sim (T.g X) m L H ∧ RelF X.K m H ρ σ ∧ wpS T W X D m H (loopF s (fun w ρ => asgT C t w ρ) (fun ρ => exSs C b ρ) n i ρ) L, ⟨fuel, m1, ρ, L1, Ext.refl _ _, S1, F1, q1⟩, ?_⟩
  rintro i n σ H ⟨m, ρ, L, ex, S, F, q⟩
  cases n with
  | zero => exact False.elim q
  | succ n =>
    have q : wpS T W X D m H (match srcAt L i s with
      | none => fail
      | some none => ret (.nx, ρ)
      | some (some w) => sx ρ (asgT C t w ρ) fun ρ1 => bnd (exSs C b ρ1) fun r => (match r.1 with
        | .nx => loopF s (fun w ρ => asgT C t w ρ) (fun ρ => exSs C b ρ) n (i + 1) r.2
        | .ct => loopF s (fun w ρ => asgT C t w ρ) (fun ρ => exSs C b ρ) n (i + 1) r.2
        | .bk => ret (.nx, r.2)
        | .rt w => ret (.rt w, r.2)
        | .ex e => ret (.ex e, r.2))) L := q
    obtain ⟨k1, k2⟩ := sk m L H ex.x0 S i
    cases es : srcAt L i s with
    | none => rw [es] at q; exact False.elim q
    | some o =>
      cases o with
      | none => rw [es] at q; exact .inl ⟨k2 es, wpS_nx S F q⟩
      | some w =>
        obtain ⟨g1, g2⟩ := k1 w es
        rw [es] at q
        refine .inr ⟨g1, fun σ H => ∃ m ρ L, Ext m1 H1 m H ∧ Sim (T.g X) m L H ∧ RelF X.K m H ρ σ ∧ wpS T W X D m H (loopF s (fun w ρ => asgT C t w ρ) (fun ρ => exSs C b ρ) n (i + 1) ρ) L, fun σ' H' z => ⟨n, Nat.lt_succ_self n, z⟩, fun v H' y => ?_⟩
        obtain ⟨e2, S2, rw2⟩ := g2 v H' y
        refine ⟨m, ρ, L, w, S2, F.mono e2, rw2, (wpS_sx (R' := RG X.K (tgIx t) σ) (F.mono e2) (q.mono e2)).imp fun σ3 H3 ⟨m3, L3, ρ3, e3, S3, ⟨F3, _, _⟩, q3⟩ => ?_⟩
        refine ⟨m3, ρ3, L3, S3, F3, ?_⟩
        exact wp_mono (wpS_bnd q3) (fun r L' z => post_body (fun m' ρ H' σ' S F e z => ⟨m', ρ, L', ((ex.trans e2).trans e3).trans e, S, F, z⟩) z) fun _ _ z => z
theorem pip_ok (op : BOp) (Xw : XW) : PIp X (bopP op) (rO2 (T.g X) Xw (iop op)) := by
  intro pins s σ H x y v u Q I rx ry h
  obtain ⟨σ', m, L, a, b, S, ra, rb, h⟩ := h
  cases op with
  | add =>
    cases a <;> cases b <;> try exact False.elim h
    · cases ra; cases rb
      exact ip_add pins s σ H _ _ v u Q I rx ry ⟨_, _, rfl, rfl, run_val h S (.int _)⟩
    · cases ra; cases rb
      rcases run_if h with ⟨c, h⟩ | ⟨_, h⟩
      · refine iop_add_str pins s σ H _ _ v u Q I rx ry ⟨_, _, rfl, rfl, ?_, ?_⟩
        · rw [str_len, str_len]; exact lenOk_le c
        · rw [str_app]; exact run_val h S (.str _)
      · exact h.elim
  | sub =>
    cases a <;> cases b <;> try exact False.elim h
    cases ra; cases rb
    exact ip_sub pins s σ H _ _ v u Q I rx ry ⟨_, _, rfl, rfl, run_val h S (.int _)⟩
  | _ => cases a <;> cases b <;> exact False.elim h
theorem noComp_sw {e : Expr} (h : noComp e = true) (t : Option Expr) (l : Nat) (env : PySem.Env) : swapsWith e t l env = pure false := by
  cases e <;> first | rfl | cases h
theorem noSwap_st {tg e : Expr} (h : noSwap tg e = true) (env : PySem.Env) : swappedStores [tg] e env = pure none := by
  cases tg <;> first | rfl | (cases e <;> first | rfl | cases h)
theorem asg1 {t : Tgt} {e : Expr} (h : chkG p c t e = true) (env : PySem.Env) : (assignEach [e] env).map (·.2) = [assign e env] := by
  rw [asgE_plain h]
  rfl
theorem tS_asg {t : Tgt} {x : Ex} {D : Ends} {σ : L2.St} {H : Hp} (q : tS T W X (fun ρ => exS C (.asg t x) ρ) D σ H) : tAsg (tE T C W X x) (tG T C W X t) D σ H :=
  (tS_sx (R' := RelW X.K) q).imp fun v H1 ⟨m1, ρ, L1, w, S1, F1, r1, q1⟩ => ⟨m1, ρ, L1, w, S1, F1, r1, (wpS_sx (R' := RG X.K (tgIx t) σ) F1 q1).imp fun σ2 H2 ⟨m2, L2, ρ2, e2, S2, ⟨F2, _, _⟩, q2⟩ => wpS_nx S2 F2 q2⟩
theorem fxT {x : Sm} {b : Bool} (h : b = true) : b = true := h
theorem nSet {it : It} {tg e : Expr} (h : chkI p c it tg e = true) (env : PySem.Env) (v : Value) : foldedSetIterable e env v = pure v := noSet h env v
/-- name = [..] -/
theorem ps_lc (O : Ok T p C c X d) (tk : Takes X W) {i : Nat} {x : Ex} {y : Str} {py pos : Pos} {e : Expr} (he : chkE p c x e = true) (hg : chkG p c (.nm i) (.Name y py) = true) (hs : swB c y py e = true) : PS X (.Assign [.Name y py] e pos) (tS T W X fun ρ => exS C (.asg (.nm i) x) ρ) := by
  cases e <;> try cases hs
  rename_i elt gs scope lpos
  cases gs with
  | nil => cases hs
  | cons g0 gs =>
    cases gs with
    | cons _ _ => obtain ⟨_, _, _, _⟩ := g0; cases hs
    | nil =>
      obtain ⟨tg, iter, ifs, a⟩ := g0
      simp only [swB, Bool.and_eq_true, decide_eq_true_eq, Bool.not_eq_true'] at hs
      obtain ⟨⟨⟨⟨h1, h2⟩, h3⟩, h4⟩, h5⟩ := hs
      subst h1
      cases x <;> simp only [chkE] at he <;> try cases he
      rename_i own t it cs x
      simp only [Bool.and_eq_true, decide_eq_true_eq] at he
      obtain ⟨⟨⟨⟨⟨⟨⟨⟨_, b2⟩, b3⟩, b4⟩, b5⟩, b6⟩, b7⟩, b8⟩, b9⟩ := he
      simp only [chkG, Bool.and_eq_true, decide_eq_true_eq] at hg
      obtain ⟨⟨k1, k2⟩, k3⟩ := hg
      have hk : X.env.scope.kind = .function := by
        rw [O.sc]
        split at h2
        · assumption
        · cases h2
      have hl : X.env.scope.names.lookup y = some .local := by
        rw [O.sc]
        split at h3
        · assumption
        · cases h3
      refine PS_imp (ps_setLc (wi := tI T C W X it) (g := tG T C WF X t) (tt := tM (T.g X) WF RB fun ρ => tsAnd C ρ cs) (te := tE T C WF X x) O.calm (by rw [O.N]; exact O.nd) (by rw [O.N]; exact k1) hl (sw_true hk hl h4 h5) (sndI O tk it _ _ b5) (blkOk_by (by rw [O.N, O.sc]; exact b2)) (fun s H Cc cl fp => sndG (O.blk b3 s H Cc cl fp) takes0 t _ b6) (fun s H Cc cl fp => sndTs (O.blk b3 s H Cc cl fp) takes0 cs _ b8 b7)
        (fun s H Cc cl fp => sndE (O.blk b3 s H Cc cl fp) takes0 x _ b9) (noSet b5 X.env)) fun D σ H q => ?_
      have q1 := tS_asg q
      exact lc_turns b4 (q1.imp fun v H1 ⟨m, ρ, L, w, S, F, r, q2⟩ => run_ret (R := RG X.K (tgIx (.nm i)) σ) q2 S ⟨F.set r, by simp, fun j hj => List.getElem?_set_ne (fun z => hj (by simp [tgIx, z]))⟩)
end
mutual
theorem sndS {T : Tab} {p : Pg} {C : Env} {c : Dc} {X : Cx} {d : Nat} {W : WX} (O : Ok T p C c X d) (tk : Takes X W) (hp : PassesOwn (model X.prog X.w) X.A X.env X.xe) : ∀ (x : Sm) (s : Stmt), chkS p c x s = true → PS X s (tS T W X fun ρ => exS C x ρ)
  | .asg t x, s, h => by
    simp only [chkS] at h
    split at h <;> try cases h
    simp only [Bool.and_eq_true, Bool.or_eq_true] at h
    obtain ⟨⟨⟨h1, h2⟩, h3⟩, h4⟩ := h
    rcases h4 with h4 | h4
    · exact PS_imp (ps_asg (sndE O tk x _ h1) (sndG O tk t _ h2) (noComp_sw h4 _ _ _) (noSwap_st h3 _) (asg1 h2 _)) fun D σ H q => tS_asg q
    · split at h4
      · exact ps_lc O tk h1 h2 h4
      · cases h4
  | .aug i op x, s, h => by
    simp only [chkS] at h
    split at h <;> try cases h
    simp only [Bool.and_eq_true, decide_eq_true_eq] at h
    obtain ⟨⟨⟨⟨h1, h2⟩, h3⟩, h4⟩, h5⟩ := h
    subst h1
    refine PS_imp (ps_aug (i := i) (by rw [O.N]; exact O.nd) (by rw [O.N]; exact h2) (O.loc h3) (sndE O tk x _ h5) (pip_ok (T := T) op (ofW W)) (O.fnl (List.contains_iff_mem.mp h4) h3)) fun D σ H ⟨m, ρ, L, S, F, q⟩ => ?_
    have q : wpS T W X D m H (match ρ[i]? with
      | some (some v) => sx ρ (evE C ρ x) fun w => sx ρ (iop op v w) fun z => ret (.nx, ρ.set i (some z))
      | _ => fail) L := q
    split at q
    · rename_i w e
      obtain ⟨v, e1, r⟩ := F.at_ i w e
      refine ⟨v, e1, m, ρ, L, S, F, (wpS_sx (R' := RelW X.K) F q).imp fun y H1 ⟨m1, L1, w2, e2, S1, r1, q1⟩ => ⟨σ, m1, L1, w, w2, S1, r.mono e2, r1, ?_⟩⟩
      exact (wpS_sx (R' := RelW X.K) (F.mono e2) q1).imp fun z H2 ⟨m2, L2, w3, e3, S2, r2, q2⟩ => wpS_nx S2 (((F.mono e2).mono e3).set r2) q2
    · exact False.elim q
  | .augf _ _ _ _, s, h => by simp [chkS] at h
  | .exp x, s, h => by
    simp only [chkS] at h
    split at h <;> try cases h
    simp only [Bool.and_eq_true] at h
    exact PS_imp (ps_expr (sndE O tk x _ h.1) (noComp_sw h.2 _ _ _)) fun D σ H q => (tS_sx (R' := RelW X.K) q).imp fun v H1 ⟨m1, ρ, L1, w, S1, F1, r1, q1⟩ => wpS_nx S1 F1 q1
  | .ifs t a b, s, h => by
    simp only [chkS] at h
    split at h <;> try cases h
    simp only [Bool.and_eq_true] at h
    refine PS_imp (ps_if (sndT O tk t _ h.1.1) (sndSs O tk hp a _ h.1.2) (sndSs O tk hp b _ h.2)) fun D σ H q => ?_
    refine (tS_sx (R' := RB) q).imp fun v H1 ⟨m1, ρ, L1, x, S1, F1, r1, q1⟩ => ?_
    have r1 : x = v := r1
    subst r1
    cases x
    · rw [if_neg (by simp)] at q1 ⊢; exact ⟨m1, ρ, L1, S1, F1, q1⟩
    · rw [if_pos rfl] at q1 ⊢; exact ⟨m1, ρ, L1, S1, F1, q1⟩
  | .whl t b, s, h => by
    simp only [chkS] at h
    split at h <;> try cases h
    simp only [Bool.and_eq_true] at h
    exact ps_wh hp (sndT O tk t _ h.1) (sndSs O tk hp b _ h.2)
  | .fors t it b, s, h => by
    simp only [chkS] at h
    split at h <;> try cases h
    simp only [Bool.and_eq_true] at h
    exact ps_fr hp O.calm (sndI O tk it _ _ h.1.1) (sndG O tk t _ h.1.2) (sndSs O tk hp b _ h.2) (noSet h.1.1 X.env)
  | .rtn x, s, h => by
    simp only [chkS] at h
    split at h <;> try cases h
    exact PS_imp (ps_ret (sndE O tk x _ h)) fun D σ H q => (tS_sx (R' := RelW X.K) q).imp fun v H1 ⟨m1, ρ, L1, w, S1, F1, r1, q1⟩ => q1 m1 H1 (Ext.refl _ _) S1 v r1
  | .rtnN, s, h => by
    simp only [chkS] at h
    split at h <;> try cases h
    exact PS_imp ps_retN fun D σ H ⟨m, ρ, L, S, F, q⟩ => q m H (Ext.refl _ _) S _ .non
  | .pas, s, h => by
    simp only [chkS] at h
    split at h <;> try cases h
    exact PS_imp ps_pass fun D σ H ⟨m, ρ, L, S, F, q⟩ => wpS_nx S F q
  | .brk, s, h => by
    simp only [chkS] at h
    split at h <;> try cases h
    exact PS_imp ps_break fun D σ H ⟨m, ρ, L, S, F, q⟩ => q m H (Ext.refl _ _) S σ F
  | .cnt, s, h => by
    simp only [chkS] at h
    split at h <;> try cases h
    exact PS_imp ps_continue fun D σ H ⟨m, ρ, L, S, F, q⟩ => q m H (Ext.refl _ _) S σ F
theorem sndSs {T : Tab} {p : Pg} {C : Env} {c : Dc} {X : Cx} {d : Nat} {W : WX} (O : Ok T p C c X d) (tk : Takes X W) (hp : PassesOwn (model X.prog X.w) X.A X.env X.xe) : ∀ (xs : List Sm) (ss : List Stmt), chkSs p c xs ss = true → PSs X ss (tS T W X fun ρ => exSs C xs ρ)
  | [], ss, h => by
    cases ss with
    | cons _ _ => simp [chkSs] at h
    | nil => exact PSs_imp pss_nil fun D σ H ⟨m, ρ, L, S, F, q⟩ => wpS_nx S F q
  | x :: xs, ss, h => by
    cases ss with
    | nil => simp [chkSs] at h
    | cons s ss =>
      simp only [chkSs, Bool.and_eq_true] at h
      refine PSs_imp (pss_cons (sndS O tk hp x s h.1) (sndSs O tk hp xs ss h.2)) fun D σ H ⟨m, ρ, L, S, F, q⟩ => ⟨m, ρ, L, S, F, ?_⟩
      refine wp_mono (wpS_bnd q) (fun r L1 z => ?_) fun _ _ z => z
      obtain ⟨f, ρ1⟩ := r
      cases f with
      | nx => exact fun m' H' e S' σ' F' => ⟨m', ρ1, L1, S', F', wpS.mono e z⟩
      | rt w => exact fun m' H' e S' v r => z m' H' e S' v r
      | bk => exact fun m' H' e S' σ' F' => z m' H' e S' σ' F'
      | ct => exact fun m' H' e S' σ' F' => z m' H' e S' σ' F'
      | ex e0 => exact fun m' H' e S' σ' cls dd F' r => z m' H' e S' σ' cls dd F' r
end
end Dx

set_option maxRecDepth 100000
set_option maxHeartbeats 4000000
/-! Dx8: defs. -/
namespace Dx
open PySem PySem.Spec PyProof.Rows L2

/-- a bound argument: one that is written, a default -/
inductive Arg where | ix (i : Nat) | c (w : W)
def arrW (as : List W) : List Arg → List W
  | [] => []
  | .ix i :: r => (as[i]?.getD .non) :: arrW as r
  | .c w :: r => w :: arrW as r
/-- the small program -/
structure Tm where
  defs : List Df
  tgs : List (Nat × List Arg)
def envD (P : Tm) : Nat → Env
  | 0 => { call := fun _ _ => fail }
  | d + 1 => { call := fun t as => match P.tgs[t]? with
      | some (k, arr) => (match P.defs[k]? with
        | some f => runD (envD P d) f (arrW as arr)
        | none => fail)
      | none => fail }
theorem envD_call {P : Tm} {d t k : Nat} {arr : List Arg} {f : Df} (h1 : P.tgs[t]? = some (k, arr)) (h2 : P.defs[k]? = some f) (as : List W) : (envD P (d + 1)).call t as = runD (envD P d) f (arrW as arr) := by
  show (match P.tgs[t]? with
      | some (k, arr) => (match P.defs[k]? with
        | some f => runD (envD P d) f (arrW as arr)
        | none => fail)
      | none => fail) = _
  rw [h1]
  show (match P.defs[k]? with
        | some f => runD (envD P d) f (arrW as arr)
        | none => fail) = _
  rw [h2]
/-- how a call's written arguments are bound -/
def BindK (K : PySem.W.Frag) (fd : FuncData) (ps : List Str) (npos : Nat) (kws : List Str) (arr : List Arg) : Prop :=
  ∀ (us ws : List Value) (vs zs : List V), us.length = npos → ws.length = kws.length → Vals vs us → Vals zs ws → ∃ (full : List Value) (fullV : List V), Vals fullV full ∧ full.length = ps.length ∧
    (∀ s : Shared, K.In s.heap → BindsTo s fd ⟨us, kws.zip ws⟩ (ps.zip full)) ∧ ∀ (m : List Addr) (H : Hp) (as : List W), RelWs K m H as (vs ++ zs) → RelWs K m H (arrW as arr) fullV
section
variable {K : PySem.W.Frag} {x qual : Str} {params : Arguments} {body : List Stmt} {scope : Scope} {f : Addr} {fd : FuncData} {ps : List Str} {npos : Nat} {kws : List Str}
theorem RelWs.ixs {m : List Addr} {H : Hp} {as : List W} {vs : List V} (r : RelWs K m H as vs) : ∀ ixs : List Nat, (∀ i ∈ ixs, i < vs.length) → RelWs K m H (arrW as (ixs.map .ix)) (ixs.map fun i => vs[i]?.getD .non)
  | [], _ => .nil
  | i :: ixs, h => by
    have hi := h i (by simp)
    have hi2 : i < as.length := by rw [r.length]; exact hi
    obtain ⟨v, e1, r1⟩ := r.get (List.getElem?_eq_getElem hi2)
    refine .cons ?_ (RelWs.ixs r ixs fun j hj => h j (by simp [hj]))
    show RelW K m H (as[i]?.getD W.non) (vs[i]?.getD V.non)
    rw [e1, List.getElem?_eq_getElem hi2]
    exact r1
theorem vals_ixs {vs : List V} {us : List Value} (r : Vals vs us) : ∀ ixs : List Nat, (∀ i ∈ ixs, i < vs.length) → Vals (ixs.map fun i => vs[i]?.getD .non) (ixs.map fun i => us[i]?.getD .none)
  | [], _ => .nil
  | i :: ixs, h => by
    have hi := h i (by simp)
    obtain ⟨u, e1, r1⟩ := r.get (List.getElem?_eq_getElem hi)
    refine .cons ?_ (vals_ixs r ixs fun j hj => h j (by simp [hj]))
    show L2.RelV (vs[i]?.getD V.non) (us[i]?.getD Value.none)
    rw [e1, List.getElem?_eq_getElem hi]
    exact r1
/-- no defaults: every parameter is written -/
theorem bindK_pure (F : FunD K x qual params body scope [] [] f fd) (ixs : List Nat) (hix : (ixs.all fun i => decide (i < npos + kws.length)) = true) (hl : ixs.length = ps.length)
    (h : ∀ (kV doc pm : Value) (an : Option Addr) (cdv ct : Value) (us ws : List Value), us.length = npos → ws.length = kws.length → bindArgs (PySem.W.fnOf x qual params body scope .none kV doc pm an cdv ct) ⟨us, kws.zip ws⟩ = pure (ps.zip (ixs.map fun i => (us ++ ws)[i]?.getD .none))) :
    BindK K fd ps npos kws (ixs.map .ix) := by
  intro us ws vs zs l1 l2 r1 r2
  obtain ⟨oc, od, dV, kV, doc, pm, an, cdv, ct, osl, rfl, lk, hcd, hD, hK⟩ := F.ex
  have hv : ∀ i ∈ ixs, i < (vs ++ zs).length := fun i hi => by
    have := of_decide_eq_true (List.all_eq_true.mp hix i hi)
    rw [List.length_append, r1.length, r2.length, l1, l2]
    exact this
  rcases hD with ⟨_, rfl⟩ | ⟨e, _⟩
  · exact ⟨_, _, vals_ixs (r1.append r2) ixs hv, by rw [List.length_map, hl], fun s _ => .of_eq (h kV doc pm an cdv ct us ws l1 l2), fun m H as r => r.ixs ixs hv⟩
  · exact absurd rfl e
end
/-- a def that the small program has -/
structure DefOk (T : Tab) (p : Pg) (P : Tm) (K : PySem.W.Frag) (t : Nat) (g : Tg) (f : Addr) : Prop where
  ex : ∃ (k : Nat) (arr : List Arg) (df : Df) (x qual : Str) (params : Arguments) (body : List Stmt) (scope : Scope) (dvs : List V) (kws : List (Str × V)) (fd : FuncData) (N ps : List Str),
    P.tgs[t]? = some (k, arr) ∧ P.defs[k]? = some df ∧ FunD K x qual params body scope dvs kws f fd ∧ FnScope N ps scope ∧ chkSs p ⟨N, scope, N⟩ df.body body = true ∧ df.slots = N.length ∧ BindK K fd ps g.npos g.kws arr
section
variable {T : Tab} {p : Pg} {Tp : Tm} {P : Program} {w : World} {K : PySem.W.Frag} {mg : Str → Option Value} {base : Heap}
theorem relF_start {m : List Addr} {H : Hp} {as : List W} {vs : List V} {N : List Str} {n : Nat} (r : RelWs K m H as vs) (hn : n = N.length) (hl : vs.length ≤ N.length) : RelF K m H (as.map some ++ List.replicate (n - as.length) none) (L2.start N vs) := by
  subst hn
  have e := r.length
  unfold L2.start
  refine ⟨by simp [e], fun i w h => ?_⟩
  by_cases hi : i < as.length
  · rw [List.getElem?_append_left (by simpa using hi), List.getElem?_map] at h
    rw [List.getElem?_append_left (by simpa [← e] using hi), List.getElem?_map]
    cases e2 : as[i]? with
    | none => rw [e2] at h; cases h
    | some a =>
      rw [e2] at h
      cases h
      obtain ⟨v, e3, r3⟩ := r.get e2
      exact ⟨v, by rw [e3]; rfl, r3⟩
  · rw [List.getElem?_append_right (by simpa using hi), List.getElem?_replicate] at h
    split at h <;> cases h
theorem runD_ok {C : Env} {df : Df} {as : List W} {g : G} {Xw : XW} {σ : L2.St} {m : List Addr} {H : Hp} {L : Hh} {Q : VK} (h : run g Xw σ (RelW g.K) (runD C df as) m H L Q) :
    as.length ≤ df.slots ∧ run g Xw σ (RelW g.K) (bnd (exSs C df.body (as.map some ++ List.replicate (df.slots - as.length) none)) endOf) m H L Q := by
  rcases run_if h with ⟨c, h⟩ | ⟨_, h⟩
  · exact ⟨of_decide_eq_true c, h⟩
  · exact h.elim
theorem body_ok {C : Env} {X : Cx} {c : List Sm} {ρ : Fr} {σ : L2.St} {m : List Addr} {H : Hp} {L : Hh} {Q : VK} {E : XK} (h : run (T.g X) (fun _ _ cls d H' => E cls d H') σ (RelW X.K) (bnd (exSs C c ρ) endOf) m H L Q) :
    wpS T (fun cls d _ H => E cls d H) X { nx := fun _ H' => Q .non H', rt := Q } m H (exSs C c ρ) L := by
  unfold run at h
  rw [wp_bnd] at h
  refine wp_mono h (fun r L1 q => ?_) fun _ _ _ => trivial
  obtain ⟨f, ρ1⟩ := r
  cases f with
  | nx => exact fun m' H' e S σ' F => q m' H' _ e S .non
  | rt w => exact fun m' H' e S v r => q m' H' v e S r
  | bk => exact False.elim q
  | ct => exact False.elim q
  | ex x => exact fun m' H' e S σ' cls d F r => q m' H' cls d e S r
/-- what a def promises: what the small one does -/
def spD (T : Tab) (P : Program) (w : World) (K : PySem.W.Frag) (mg : Str → Option Value) (base : Heap) (C : Env) (df : Df) (n : Nat) : Sp := fun vs H Q E => vs.length = n ∧ ∃ m L as σ, Sim ⟨P, w, K, mg, base, T.CN, T.FN, T.rx⟩ m L H ∧ RelWs K m H as vs ∧
  run ⟨P, w, K, mg, base, T.CN, T.FN, T.rx⟩ (fun _ _ cls d H' => E cls d H') σ (RelW K) (runD C df as) m H L Q
theorem fnok_step {d : Nat} {f : Addr} {df : Df} {x qual : Str} {params : Arguments} {body : List Stmt} {scope : Scope} {dvs : List V} {kws : List (Str × V)} {fd : FuncData} {N ps : List Str} (hp : PgOk p mg) (F : FunD K x qual params body scope dvs kws f fd) (FS : FnScope N ps scope) (hc : chkSs p ⟨N, scope, N⟩ df.body body = true) (hs : df.slots = N.length)
    (ih : ∀ t g, p.tg[t]? = some g → ∃ f, mg g.name = some (.ref f) ∧ PySem.W.keepIn K (.ref f) = true ∧ CallableP T (envD Tp d) P w K mg base d t f g.npos g.kws) :
    FnOk P w K mg base (L2.CX P w) (d + 1) f fd ps (spD T P w K mg base (envD Tp d) df ps.length) := by
  refine F.ok FS (fun vs H Q E h => h.1) fun cdv A outer s H vs Q E hr ⟨hl, m, L, as, σ, S, ra, q⟩ => ?_
  obtain ⟨q1, q2⟩ := runD_ok q
  have O : Ok T p (envD Tp d) ⟨N, scope, N⟩ (cxOf (L2.CX P w) P w K mg base N qual scope f cdv A outer s H E) d := ⟨rfl, rfl, FS.nd, rfl, hr, hp, fun _ _ _ => .inl rfl, ih⟩
  refine ⟨tS T (fun cls d _ H => E cls d H) (cxOf (L2.CX P w) P w K mg base N qual scope f cdv A outer s H E) fun ρ => exSs (envD Tp d) df.body ρ, sndSs O (takes_of rfl rfl rfl rfl) (passes_of rfl) df.body body hc, m, _, L, S, relF_start (n := df.slots) ra hs ?_, body_ok q2⟩
  rw [hl]
  have := congrArg List.length FS.pre
  rw [List.length_take] at this
  omega
/-- THE STEP: a target at one depth more -/
theorem callable_step {d t : Nat} {g : Tg} {f : Addr} (hp : PgOk p mg) (D : DefOk T p Tp K t g f) (ih : ∀ t g, p.tg[t]? = some g → ∃ f, mg g.name = some (.ref f) ∧ PySem.W.keepIn K (.ref f) = true ∧ CallableP T (envD Tp d) P w K mg base d t f g.npos g.kws) :
    CallableP T (envD Tp (d + 1)) P w K mg base (d + 1) t f g.npos g.kws := by
  intro A outer s H us ws vs zs Q E m L as σ hr e0 r1 r2 l1 l2 S ra q
  obtain ⟨k, arr, df, x, qual, params, body, scope, dvs, kws, fd, N, ps, h1, h2, F, FS, hc, hs, hb⟩ := D.ex
  rw [envD_call h1 h2] at q
  obtain ⟨full, fullV, rf, lf, bf, rw'⟩ := hb us ws vs zs l1 l2 r1 r2
  have kin : K.In s.heap := fun a o h => (e0.bs _ _ (e0.mod.kin a o h)).1
  exact (fnok_step hp F FS hc hs ih).run A outer s H ⟨us, g.kws.zip ws⟩ full fullV Q E hr e0 (bf s kin) rf ⟨by rw [rf.length, lf], m, L, _, σ, S, rw' m H as ra, q⟩
theorem callable_all (hp : PgOk p mg) (hD : ∀ t g, p.tg[t]? = some g → ∃ f, mg g.name = some (.ref f) ∧ PySem.W.keepIn K (.ref f) = true ∧ DefOk T p Tp K t g f) :
    ∀ d t g, p.tg[t]? = some g → ∃ f, mg g.name = some (.ref f) ∧ PySem.W.keepIn K (.ref f) = true ∧ CallableP T (envD Tp d) P w K mg base d t f g.npos g.kws
  | 0, t, g, h => by
    obtain ⟨f, h1, h2, h3⟩ := hD t g h
    exact ⟨f, h1, h2, fun A outer s H us ws vs zs Q E m L as σ hr e0 r1 r2 l1 l2 S ra q => False.elim q⟩
  | d + 1, t, g, h => by
    obtain ⟨f, h1, h2, h3⟩ := hD t g h
    exact ⟨f, h1, h2, callable_step hp h3 (callable_all hp hD d)⟩
end
end Dx

set_option maxRecDepth 100000
set_option maxHeartbeats 4000000
/-! Dx9: the head's facts; the law. -/
namespace Dx
open PySem PySem.Spec PyProof.Rows L2
def Pg.fa (p : Pg) : List He.Fa := p.gi.map (fun q => .int q.1 q.2) ++ (p.gs.map (fun q => .str q.1 ⟨q.2.toArray⟩) ++ (p.free.map .free ++ p.tg.map fun g => .glo g.name))
section
variable {K : PySem.W.Frag} {h : Heap} {mg : Str → Option Value} {p : Pg} {fn : List He.DefD} {ex : List He.Fa}
theorem pgOk_of (X : K.In h) (G : h.Ns mainGlobals mg) (c : He.SaysD (p.fa ++ ex) fn K) : PgOk p mg := by
  refine ⟨fun q hq => ?_, fun q hq => ?_, fun x hx => ?_⟩
  · exact He.int_ok X G (c.facts (f := .int q.1 q.2) (by simp only [Pg.fa, List.mem_append, List.mem_map]; exact .inl (.inl ⟨q, hq, rfl⟩)))
  · exact He.str_ok X G (c.facts (f := .str q.1 ⟨q.2.toArray⟩) (by simp only [Pg.fa, List.mem_append, List.mem_map]; exact .inl (.inr (.inl ⟨q, hq, rfl⟩))))
  · exact He.free_ok X G (c.facts (f := .free x) (by simp only [Pg.fa, List.mem_append, List.mem_map]; exact .inl (.inr (.inr (.inl ⟨x, hx, rfl⟩)))))
theorem glo_of (X : K.In h) (G : h.Ns mainGlobals mg) (c : He.SaysD (p.fa ++ ex) fn K) {t : Nat} {g : Tg} (e : p.tg[t]? = some g) : mg g.name = some (.ref (He.ga K g.name)) :=
  He.glo_ok X G (c.facts (f := .glo g.name) (by simp only [Pg.fa, List.mem_append, List.mem_map]; exact .inl (.inr (.inr (.inr ⟨g, List.mem_of_getElem? e, rfl⟩)))))
end
/-- a def's row: its datum, the names of its slots, of its parameters, the small one -/
structure Rw where
  dd : He.DefD
  N : List Str
  ps : List Str
def scB (N ps : List Str) (sc : Scope) : Bool := (match sc.kind with
    | .function => true
    | _ => false) && !sc.isCoroutine && !sc.isGenerator && decide N.Nodup && decide (N.take ps.length = ps) && (ps.all fun x => match sc.names.lookup x with
    | some .local => true
    | some .cell => true
    | _ => false) && (sc.names.all fun y => match y.2 with
    | .free => false
    | _ => true)
theorem scB_ok {N ps : List Str} {sc : Scope} (h : scB N ps sc = true) : FnScope N ps sc := by
  simp only [scB, Bool.and_eq_true, decide_eq_true_eq, Bool.not_eq_true', List.all_eq_true] at h
  obtain ⟨⟨⟨⟨⟨⟨h1, h2⟩, h3⟩, h4⟩, h5⟩, h6⟩, h7⟩ := h
  refine ⟨?_, h2, h3, h4, h5, fun x hx => ?_, fun y hy e => ?_⟩
  · split at h1
    · assumption
    · cases h1
  · have := h6 x hx
    split at this
    · exact .inl (by assumption)
    · exact .inr (by assumption)
    · cases this
  · have := h7 y hy
    rw [e] at this
    cases this
def rowB (p : Pg) (r : Rw) (df : Df) : Bool := scB r.N r.ps r.dd.scope && chkSs p ⟨r.N, r.dd.scope, r.N⟩ df.body r.dd.body && decide (df.slots = r.N.length)
theorem defOk_of {T : Tab} {p : Pg} {Tp : Tm} {K : PySem.W.Frag} {fn : List He.DefD} {fa : List He.Fa} (c : He.SaysD fa fn K) {t k : Nat} {g : Tg} {arr : List Arg} {df : Df} {r : Rw} (hr : r.dd ∈ fn) (h1 : Tp.tgs[t]? = some (k, arr)) (h2 : Tp.defs[k]? = some df) (hb : rowB p r df = true)
    (hbind : ∀ fd, FunD K r.dd.name r.dd.qual r.dd.params r.dd.body r.dd.scope (r.dd.dvs K) (r.dd.kws K) (He.fAd K r.dd.at_) fd → BindK K fd r.ps g.npos g.kws arr) : PySem.W.keepIn K (.ref (He.fAd K r.dd.at_)) = true ∧ DefOk T p Tp K t g (He.fAd K r.dd.at_) := by
  obtain ⟨fd, F⟩ := c.defs hr
  simp only [rowB, Bool.and_eq_true, decide_eq_true_eq] at hb
  exact ⟨F.kp, ⟨k, arr, df, _, _, _, _, _, _, _, fd, r.N, r.ps, h1, h2, F, scB_ok hb.1.1, hb.1.2, hb.2, hbind fd F⟩⟩
theorem walk_dx {l : PySem.W.OpenLaw} {n k : Nat} {q : Program} {loose : List Str} {XP : (Str → Option Value) → Heap → Prop} {YP : World → Heap → Prop} {d : DefRec} {CX : World → CXT} {x : Str}
    (hn : l.most = some n) (hn2 : n ≤ sizeLine) (hdf : d.params.defaults = []) (hr : Room k callerA)
    (F : ∀ (w : World) (mg : Str → Option Value) (fa : Addr) (h : Heap), YP w h → h.Ns mainGlobals mg → mg d.name = some (.ref fa) →
      ∃ (K : PySem.W.Frag) (fd : FuncData) (sp : Heap → Sp), K.In h ∧ (∀ (s : Shared) (u : Value), BindsTo s fd ⟨[u], []⟩ [(x, u)]) ∧
        (∀ (b : Heap) (H : Hp) (a : Addr) (ns : List Int), ns.length ≤ n → Only H → SqL K H a (ns.map V.int) → sp b [.ref a] H (fun v _ => v = .bl true) fun _ _ _ => False) ∧
        ∀ base : Heap, K.In base → base.Ns mainGlobals mg → FnOk l.prog w K mg base (CX w) k fa fd [x] (sp base))
    (hCX : ∀ (w : World) (H : Hp) (s : Shared) (e : Value) (s' : Shared), CX w [] H s (fun _ _ _ => False) e s' → False) :
    PySem.W.WalkO q loose XP YP l.row.toRowW d [] (fun f vs => PySem.call f vs) := by
  refine Att.attach_call hn hdf fun w s₀ s₁ mg mb fa o pm cd doc a vs ns G Y ho hd hcd hmg hobj hints hlen hg => ?_
  obtain ⟨K, fd, sp, KX, hb, hsp, hF⟩ := F w mg fa _ Y G.T.g hmg
  exact law_call (sp := fun vs H Q E => ∀ b, sp b vs H Q E) KX G.T.g G.T.b G.T.builtins G.T.nolimit hg hobj hints (Nat.le_trans hlen hn2) hr (fun base h1 h2 => (hF base h1 h2).imp fun vs H Q E h => h base) hb (fun H hO hS b => hsp b H a ns hlen hO hS) fun H e s' => hCX w H s₁ e s'
/-- the law's def keeps the law -/
theorem law_sp {T : Tab} {P : Program} {w : World} {K : PySem.W.Frag} {mg : Str → Option Value} {base : Heap} {C : Env} {df : Df} {H : Hp} {a : Addr} {ns : List Int} (hO : Only H) (hS : SqL K H a (ns.map V.int))
    (h : wp (runD C df [.scr (ns.map W.int)]) [] (fun w _ => w = .bl true) fun _ _ => False) : spD T P w K mg base C df 1 [.ref a] H (fun v _ => v = .bl true) fun _ _ _ => False := by
  have hs : Scr K H a (ns.map V.int) := by
    rcases hS with (h | ⟨o, h⟩) | h
    · rcases hO a with z | ⟨o, xs, z⟩
      · rw [h] at z; cases z
      · rw [h] at z; cases z
    · exact .inl ⟨o, h⟩
    · exact .inr h
  have hr : ∀ ns : List Int, RelWs K [] H (ns.map W.int) (ns.map V.int) := fun ns => by
    induction ns with
    | nil => exact .nil
    | cons n ns ih => exact .cons (.int n) ih
  refine ⟨rfl, [], [], [.scr (ns.map W.int)], [], ⟨rfl, List.nodup_nil, fun l a o h1 h2 => by simp at h1⟩, .cons (.scr hs (hr ns)) .nil, ?_⟩
  refine wp_mono h (fun v L' e m' H' b _ _ r => ?_) fun _ _ z => z.elim
  subst e
  cases r
  rfl
theorem hCX_of {P : Program} : ∀ (w : World) (H : Hp) (s : Shared) (e : Value) (s' : Shared), L2.CX P w [] H s (fun _ _ _ => False) e s' → False := fun w H s e s' h => by
  obtain ⟨_, _, _, _, _, _, _, _, _, _, _, _, z⟩ := h
  exact z
end Dx

set_option maxRecDepth 100000
set_option maxHeartbeats 4000000
/-! Dx10: plain rules of the evaluator; the hand that all laws draw from. -/
namespace Dx
open PySem
section
variable {C : Env} {L : Hh}
/-- nothing but l differs -/
structure Same1 (l : Nat) (L L' : Hh) : Prop where
  len : L'.length = L.length
  ne : ∀ j, j ≠ l → L'[j]? = L[j]?
theorem Same1.refl (l : Nat) (L : Hh) : Same1 l L L := ⟨rfl, fun _ _ => rfl⟩
theorem Same1.trans {l : Nat} {L L1 L2 : Hh} (a : Same1 l L L1) (b : Same1 l L1 L2) : Same1 l L L2 := ⟨b.len.trans a.len, fun j h => (b.ne j h).trans (a.ne j h)⟩
theorem Same1.set {l : Nat} {L L1 : Hh} (a : Same1 l L L1) (o : O) : Same1 l L (L1.set l o) := ⟨by rw [List.length_set, a.len], fun j h => by rw [List.getElem?_set_ne (Ne.symm h)]; exact a.ne j h⟩
theorem get_set {l : Nat} {L : Hh} {o o' : O} (h : L[l]? = some o) : (L.set l o')[l]? = some o' := by
  obtain ⟨q, _⟩ := List.getElem?_eq_some_iff.mp h
  exact List.getElem?_set_self q
theorem get_new {L : Hh} {o : O} : (L ++ [o])[L.length]? = some o := by simp
theorem get_old {L : Hh} {o o' : O} {j : Nat} (h : L[j]? = some o) : (L ++ [o'])[j]? = some o := by
  obtain ⟨q, _⟩ := List.getElem?_eq_some_iff.mp h
  rw [List.getElem?_append_left q]
  exact h
theorem lt_of_get {L : Hh} {j : Nat} {o : O} (h : L[j]? = some o) : j < L.length := (List.getElem?_eq_some_iff.mp h).1
/-! ### pieces of a run -/
theorem wp_runD {f : Df} {as : List W} {Q : W → Hh → Prop} {E : W → Hh → Prop} (hl : as.length ≤ f.slots) (h : wp (exSs C f.body (as.map some ++ List.replicate (f.slots - as.length) none)) L (fun r L' => wp (endOf r) L' Q E) E) : wp (runD C f as) L Q E := by
  unfold runD
  rw [if_pos (decide_eq_true hl), wp_bnd]
  exact h
/-! ### rules that rewrite -/
section
variable {ρ : Fr} {Q : W → Hh → Prop} {E : W → Hh → Prop}
@[simp] theorem wp_ite {α : Type} {p : Prop} [Decidable p] {a b : M α} {Q : α → Hh → Prop} : wp (if p then a else b) L Q E = if p then wp a L Q E else wp b L Q E := by by_cases h : p <;> simp [h]
@[simp] theorem wp_var {i : Nat} : wp (evE C ρ (.var i)) L Q E = (match ρ[i]? with
    | some (some w) => Q w L
    | _ => False) := by
  show wp (match ρ[i]? with
    | some (some w) => ret w
    | _ => fail) L Q E = _
  cases ρ[i]? with
  | none => rfl
  | some o => cases o <;> rfl
@[simp] theorem wp_kn : wp (evE C ρ .kn) L Q E = Q .non L := rfl
@[simp] theorem wp_kb {b : Bool} : wp (evE C ρ (.kb b)) L Q E = Q (.bl b) L := rfl
@[simp] theorem wp_ki {i : Int} : wp (evE C ρ (.ki i)) L Q E = Q (.int i) L := rfl
@[simp] theorem wp_ks {x : Txt} : wp (evE C ρ (.ks x)) L Q E = Q (.str x) L := rfl
@[simp] theorem wp_gi {g : Str} {i : Int} : wp (evE C ρ (.gi g i)) L Q E = Q (.int i) L := rfl
@[simp] theorem wp_gs {g : Str} {x : Txt} : wp (evE C ρ (.gs g x)) L Q E = Q (.str x) L := rfl
@[simp] theorem wp_bin {op : BOp} {a b : Ex} : wp (evE C ρ (.bin op a b)) L Q E = wp (evE C ρ a) L (fun x L1 => wp (evE C ρ b) L1 (fun y L2 => wp (binop op x y) L2 Q E) E) E := by simp only [evE, wp_bnd]
@[simp] theorem wp_cmp {op : COp} {a b : Ex} : wp (evE C ρ (.cmp op a b)) L Q E = wp (evE C ρ a) L (fun x L1 => wp (evE C ρ b) L1 (fun y L2 => wp (cmpop op x y) L2 Q E) E) E := by simp only [evE, wp_bnd]
@[simp] theorem wp_sub {a b : Ex} : wp (evE C ρ (.sub a b)) L Q E = wp (evE C ρ a) L (fun x L1 => wp (evE C ρ b) L1 (fun y L2 => wp (itemAt x y) L2 Q E) E) E := by simp only [evE, wp_bnd]
@[simp] theorem wp_lst {xs : List Ex} : wp (evE C ρ (.lst xs)) L Q E = wp (evEs C ρ xs) L (fun ws L1 => if lenOk ws.length = true then Q (.ref L1.length) (L1 ++ [.lst ws]) else False) E := by
  simp only [evE, wp_bnd, wp_ite, wp_fail]
  rfl
@[simp] theorem wp_tup {xs : List Ex} : wp (evE C ρ (.tup xs)) L Q E = wp (evEs C ρ xs) L (fun ws L1 => if lenOk ws.length = true then Q (.tup ws) L1 else False) E := by
  simp only [evE, wp_bnd, wp_ite, wp_fail, wp_ret]
@[simp] theorem wp_call {t : Nat} {xs ys : List Ex} : wp (evE C ρ (.call t xs ys)) L Q E = wp (evEs C ρ xs) L (fun ws L1 => wp (evEs C ρ ys) L1 (fun zs L2 => wp (C.call t (ws ++ zs)) L2 Q E) E) E := by simp only [evE, wp_bnd]
@[simp] theorem wp_bi {b : Bi} {xs : List Ex} : wp (evE C ρ (.bi b xs)) L Q E = wp (evEs C ρ xs) L (fun ws L1 => wp (callB b ws) L1 Q E) E := by simp only [evE, wp_bnd]
@[simp] theorem wp_met {m : Bm} {o : Ex} {xs : List Ex} : wp (evE C ρ (.met m o xs)) L Q E = wp (evE C ρ o) L (fun x L1 => if rcvOk L1 m x = true then wp (evEs C ρ xs) L1 (fun ws L2 => wp (callM m x ws) L2 Q E) E else False) E := by simp only [evE, wp_bnd, wp_gets, wp_ite, wp_fail]
@[simp] theorem wp_ifx {t : Tx} {a b : Ex} : wp (evE C ρ (.ifx t a b)) L Q E = wp (evT C ρ t) L (fun k L1 => if k = true then wp (evE C ρ a) L1 Q E else wp (evE C ρ b) L1 Q E) E := by simp only [evE, wp_bnd, wp_ite]
@[simp] theorem wp_bnot {a : Ex} : wp (evE C ρ (.bnot a)) L Q E = wp (evE C ρ a) L (fun x L1 => wp (truth x) L1 (fun b L2 => Q (.bl (!b)) L2) E) E := by simp only [evE, wp_bnd, wp_ret]
@[simp] theorem wp_band {xs : List Ex} : wp (evE C ρ (.band xs)) L Q E = wp (evAnd C ρ xs) L Q E := by simp only [evE]
@[simp] theorem wp_bor {xs : List Ex} : wp (evE C ρ (.bor xs)) L Q E = wp (evOr C ρ xs) L Q E := by simp only [evE]
@[simp] theorem wp_and1 {x : Ex} : wp (evAnd C ρ [x]) L Q E = wp (evE C ρ x) L Q E := by simp only [evAnd, wp_bnd, List.isEmpty_nil, if_true, wp_ret]
@[simp] theorem wp_and2 {x y : Ex} {xs : List Ex} : wp (evAnd C ρ (x :: y :: xs)) L Q E = wp (evE C ρ x) L (fun w L1 => match w with
    | .bl b => if b = true then wp (evAnd C ρ (y :: xs)) L1 Q E else Q (.bl false) L1
    | _ => False) E := by
  rw [evAnd, wp_bnd]
  congr 1
  funext w L1
  cases w <;> first | rfl | (rename_i b; cases b <;> rfl)
@[simp] theorem wp_or1 {x : Ex} : wp (evOr C ρ [x]) L Q E = wp (evE C ρ x) L Q E := by simp only [evOr, wp_bnd, List.isEmpty_nil, if_true, wp_ret]
@[simp] theorem wp_or2 {x y : Ex} {xs : List Ex} : wp (evOr C ρ (x :: y :: xs)) L Q E = wp (evE C ρ x) L (fun w L1 => match w with
    | .bl b => if b = true then Q (.bl true) L1 else wp (evOr C ρ (y :: xs)) L1 Q E
    | _ => False) E := by
  rw [evOr, wp_bnd]
  congr 1
  funext w L1
  cases w <;> first | rfl | (rename_i b; cases b <;> rfl)
@[simp] theorem wp_chn {o1 o2 : COp} {a b c : Ex} : wp (evE C ρ (.chn o1 o2 a b c)) L Q E = wp (evE C ρ a) L (fun x L1 => wp (evE C ρ b) L1 (fun y L2 => wp (cmpop o1 x y) L2 (fun r L3 => match r with
    | .bl k => if k = true then wp (evE C ρ c) L3 (fun z L4 => wp (cmpop o2 y z) L4 Q E) E else Q (.bl false) L3
    | _ => False) E) E) E := by
  simp only [evE, wp_bnd]
  congr 1; funext x L1; congr 1; funext y L2; congr 1; funext r L3
  cases r <;> first | rfl | (rename_i k; cases k <;> first | rfl | (simp only [wp_bnd]; rfl))
@[simp] theorem wp_es_nil {Q : List W → Hh → Prop} : wp (evEs C ρ []) L Q E = Q [] L := rfl
@[simp] theorem wp_es_cons {x : Ex} {xs : List Ex} {Q : List W → Hh → Prop} : wp (evEs C ρ (x :: xs)) L Q E = wp (evE C ρ x) L (fun w L1 => wp (evEs C ρ xs) L1 (fun ws L2 => Q (w :: ws) L2) E) E := by simp only [evEs, wp_bnd, wp_ret]
@[simp] theorem wp_o_none {Q : Option Int → Hh → Prop} : wp (evO C ρ none) L Q E = Q none L := rfl
@[simp] theorem wp_o_some {x : Ex} {Q : Option Int → Hh → Prop} : wp (evO C ρ (some x)) L Q E = wp (evE C ρ x) L (fun w L1 => match w with
    | .int i => Q (some i) L1
    | _ => False) E := by
  simp only [evO, optI, wp_bnd]
  congr 1; funext w L1
  cases w <;> rfl
@[simp] theorem wp_slc {a : Ex} {lo hi : Option Ex} : wp (evE C ρ (.slc a lo hi)) L Q E = wp (evE C ρ a) L (fun x L1 => wp (evO C ρ lo) L1 (fun l L2 => wp (evO C ρ hi) L2 (fun h L3 => wp (sliceOf x l h) L3 Q E) E) E) E := by simp only [evE, wp_bnd]
@[simp] theorem wp_isi {x : Ex} {c : Cl} : wp (evE C ρ (.isi x c)) L Q E = wp (evE C ρ x) L (fun w L1 => match isKind C.sub L1 w c with
    | some b => Q (.bl b) L1
    | none => False) E := by
  simp only [evE, wp_bnd, wp_gets]
  congr 1; funext w L1
  cases isKind C.sub L1 w c <;> rfl
@[simp] theorem wp_isis {x : Ex} {cs : List Cl} : wp (evE C ρ (.isis x cs)) L Q E = wp (evE C ρ x) L (fun w L1 => if cs ≠ [] ∧ cs.length < 64 then (match anyKind C.sub L1 w cs with
    | some b => Q (.bl b) L1
    | none => False) else False) E := by
  simp only [evE, wp_bnd, wp_gets, wp_ite, wp_fail]
  congr 1; funext w L1
  split
  · cases anyKind C.sub L1 w cs <;> rfl
  · rfl
@[simp] theorem wp_srtset {x : Ex} : wp (evE C ρ (.srtset x)) L Q E = wp (evE C ρ x) L (fun w L1 => wp (sortSet w) L1 Q E) E := by simp only [evE, wp_bnd]
/-! tests -/
@[simp] theorem wp_tval {x : Ex} {Q : Bool → Hh → Prop} : wp (evT C ρ (.val x)) L Q E = wp (evE C ρ x) L (fun w L1 => wp (truth w) L1 Q E) E := by simp only [evT, wp_bnd]
@[simp] theorem wp_tbv {x : Ex} {Q : Bool → Hh → Prop} : wp (evT C ρ (.bv x)) L Q E = wp (evE C ρ x) L (fun w L1 => match w with
    | .bl b => Q b L1
    | _ => False) E := by
  simp only [evT, wp_bnd]
  congr 1; funext w L1
  cases w <;> rfl
@[simp] theorem wp_tnt {t : Tx} {Q : Bool → Hh → Prop} : wp (evT C ρ (.nt t)) L Q E = wp (evT C ρ t) L (fun b L1 => Q (!b) L1) E := by simp only [evT, wp_bnd, wp_ret]
@[simp] theorem wp_tall {ts : List Tx} {Q : Bool → Hh → Prop} : wp (evT C ρ (.all ts)) L Q E = wp (tsAnd C ρ ts) L Q E := by simp only [evT]
@[simp] theorem wp_tany {ts : List Tx} {Q : Bool → Hh → Prop} : wp (evT C ρ (.any ts)) L Q E = wp (tsOr C ρ ts) L Q E := by simp only [evT]
@[simp] theorem wp_ta_nil {Q : Bool → Hh → Prop} : wp (tsAnd C ρ []) L Q E = Q true L := rfl
@[simp] theorem wp_ta_cons {t : Tx} {ts : List Tx} {Q : Bool → Hh → Prop} : wp (tsAnd C ρ (t :: ts)) L Q E = wp (evT C ρ t) L (fun b L1 => if b = true then wp (tsAnd C ρ ts) L1 Q E else Q false L1) E := by simp only [tsAnd, wp_bnd, wp_ite, wp_ret]
@[simp] theorem wp_to_nil {Q : Bool → Hh → Prop} : wp (tsOr C ρ []) L Q E = Q false L := rfl
@[simp] theorem wp_to_cons {t : Tx} {ts : List Tx} {Q : Bool → Hh → Prop} : wp (tsOr C ρ (t :: ts)) L Q E = wp (evT C ρ t) L (fun b L1 => if b = true then Q true L1 else wp (tsOr C ρ ts) L1 Q E) E := by simp only [tsOr, wp_bnd, wp_ite, wp_ret]
/-! operations -/
@[simp] theorem wp_addI {i j : Int} : wp (binop .add (.int i) (.int j)) L Q E = Q (.int (i + j)) L := rfl
@[simp] theorem wp_subI {i j : Int} : wp (binop .sub (.int i) (.int j)) L Q E = Q (.int (i - j)) L := rfl
@[simp] theorem wp_mulI {i j : Int} : wp (binop .mul (.int i) (.int j)) L Q E = if (smallI i || smallI j) = true then Q (.int (i * j)) L else False := by
  show wp (if (smallI i || smallI j) = true then ret (.int (i * j)) else fail) L Q E = _
  simp only [wp_ite, wp_ret, wp_fail]
@[simp] theorem wp_modI {i j : Int} : wp (binop .mod (.int i) (.int j)) L Q E = if 0 < j then Q (.int (i % j)) L else False := by
  show wp (if decide (0 < j) = true then ret (.int (i % j)) else fail) L Q E = _
  simp only [wp_ite, wp_ret, wp_fail, decide_eq_true_eq]
@[simp] theorem wp_fdivI {i j : Int} : wp (binop .fdiv (.int i) (.int j)) L Q E = if 0 < j ∧ j < 1073741824 then Q (.int (i / j)) L else False := by
  show wp (if (decide (0 < j) && decide (j < 1073741824)) = true then ret (.int (i / j)) else fail) L Q E = _
  simp only [wp_ite, wp_ret, wp_fail, decide_eq_true_eq, Bool.and_eq_true]
@[simp] theorem wp_powI {i j : Int} : wp (binop .pow (.int i) (.int j)) L Q E = if (0 ≤ j ∧ j ≤ 1000000) ∧ i.natAbs < 18446744073709551616 then Q (.int (i ^ j.toNat)) L else False := by
  show wp (if (decide (0 ≤ j) && decide (j ≤ 1000000) && decide (i.natAbs < 2 ^ 64)) = true then ret (.int (i ^ j.toNat)) else fail) L Q E = _
  simp only [wp_ite, wp_ret, wp_fail, decide_eq_true_eq, Bool.and_eq_true]
@[simp] theorem wp_addS {x y : Txt} : wp (binop .add (.str x) (.str y)) L Q E = if lenOk (x.length + y.length) = true then Q (.str (x ++ y)) L else False := by
  show wp (if lenOk (x.length + y.length) = true then ret (.str (x ++ y)) else fail) L Q E = _
  simp only [wp_ite, wp_ret, wp_fail]
@[simp] theorem wp_addL {a b : Nat} : wp (binop .add (.ref a) (.ref b)) L Q E = (match L[a]?, L[b]? with
    | some (.lst x), some (.lst y) => if lenOk (x.length + y.length) = true then Q (.ref L.length) (L ++ [.lst (x ++ y)]) else False
    | _, _ => False) := by
  show wp (match L[a]?, L[b]? with
    | some (.lst x), some (.lst y) => if lenOk (x.length + y.length) then alloc (.lst (x ++ y)) else fail
    | _, _ => fail) L Q E = _
  split
  · simp only [wp_ite, wp_fail]; rfl
  · rfl
@[simp] theorem wp_lt {i j : Int} : wp (cmpop .lt (.int i) (.int j)) L Q E = Q (.bl (decide (i < j))) L := rfl
@[simp] theorem wp_le {i j : Int} : wp (cmpop .le (.int i) (.int j)) L Q E = Q (.bl (decide (i ≤ j))) L := rfl
@[simp] theorem wp_gt {i j : Int} : wp (cmpop .gt (.int i) (.int j)) L Q E = Q (.bl (decide (j < i))) L := rfl
@[simp] theorem wp_ge {i j : Int} : wp (cmpop .ge (.int i) (.int j)) L Q E = Q (.bl (decide (j ≤ i))) L := rfl
@[simp] theorem wp_isN {x : W} : wp (cmpop .is x .non) L Q E = Q (.bl (isNone x)) L := by cases x <;> rfl
@[simp] theorem wp_isnN {x : W} : wp (cmpop .isn x .non) L Q E = Q (.bl (!isNone x)) L := by cases x <;> rfl
@[simp] theorem wp_eq {x y : W} : wp (cmpop .eq x y) L Q E = (match asData L 64 x, asData L 64 y with
    | some d, some e => if (SeqAt.shaped d && SeqAt.shaped e) = true then Q (.bl (PyData.eqv d e)) L else False
    | _, _ => False) := by
  have : cmpop .eq x y = bnd (eqop x y) fun b => ret (.bl b) := by cases x <;> cases y <;> rfl
  rw [this, wp_bnd]
  show wp (match asData L 64 x, asData L 64 y with
    | some d, some e => if SeqAt.shaped d && SeqAt.shaped e then ret (PyData.eqv d e) else fail
    | _, _ => fail) L _ E = _
  split
  · simp only [wp_ite, wp_ret, wp_fail]
  · rfl
@[simp] theorem wp_neq {x y : W} : wp (cmpop .ne x y) L Q E = (match asData L 64 x, asData L 64 y with
    | some d, some e => if (SeqAt.shaped d && SeqAt.shaped e) = true then Q (.bl (!PyData.eqv d e)) L else False
    | _, _ => False) := by
  have : cmpop .ne x y = bnd (eqop x y) fun b => ret (.bl (!b)) := by cases x <;> cases y <;> rfl
  rw [this, wp_bnd]
  show wp (match asData L 64 x, asData L 64 y with
    | some d, some e => if SeqAt.shaped d && SeqAt.shaped e then ret (PyData.eqv d e) else fail
    | _, _ => fail) L _ E = _
  split
  · simp only [wp_ite, wp_ret, wp_fail]
  · rfl
@[simp] theorem wp_itemL {l : Nat} {i : Int} : wp (itemAt (.ref l) (.int i)) L Q E = (match itemsOf L (.ref l) with
    | some ws => (match L2.atI ws i with
      | some w => Q w L
      | none => False)
    | none => False) := by
  show wp (match L[l]? with
    | some (.lst ws) => (match L2.atI ws i with | some w => ret w | none => fail)
    | some (.ro ws) => (match L2.atI ws i with | some w => ret w | none => fail)
    | _ => fail) L Q E = _
  unfold itemsOf
  dsimp only
  cases L[l]? with
  | none => rfl
  | some o =>
    cases o with
    | lst ws => dsimp only; cases L2.atI ws i <;> rfl
    | ro ws => dsimp only; cases L2.atI ws i <;> rfl
    | _ => rfl
@[simp] theorem wp_itemT {ws : List W} {i : Int} : wp (itemAt (.tup ws) (.int i)) L Q E = (match L2.atI ws i with
    | some w => Q w L
    | none => False) := by
  show wp (match L2.atI ws i with | some w => ret w | none => fail) L Q E = _
  cases L2.atI ws i <;> rfl
@[simp] theorem wp_itemS {t : Txt} {i : Int} : wp (itemAt (.str t) (.int i)) L Q E = if lenOk t.length = true then (match L2.atI t i with
    | some c => Q (.str [c]) L
    | none => False) else False := by
  show wp (if lenOk t.length then (match L2.atI t i with | some c => ret (.str [c]) | none => fail) else fail) L Q E = _
  simp only [wp_ite, wp_fail]
  split
  · cases L2.atI t i <;> rfl
  · rfl
@[simp] theorem wp_trb {b : Bool} {Q : Bool → Hh → Prop} : wp (truth (.bl b)) L Q E = Q b L := rfl
@[simp] theorem wp_tri {i : Int} {Q : Bool → Hh → Prop} : wp (truth (.int i)) L Q E = Q (i != 0) L := rfl
@[simp] theorem wp_lenL {l : Nat} : wp (callB .len [.ref l]) L Q E = (match itemsOf L (.ref l) with
    | some ws => Q (.int ws.length) L
    | none => False) := by
  show wp (match itemsOf L (.ref l) with
    | some ws => ret (.int ws.length)
    | none => fail) L Q E = _
  cases itemsOf L (.ref l) <;> rfl
@[simp] theorem wp_lenT {ws : List W} : wp (callB .len [.tup ws]) L Q E = Q (.int ws.length) L := rfl
@[simp] theorem wp_lenS {x : Txt} : wp (callB .len [.str x]) L Q E = if lenOk x.length = true then Q (.int x.length) L else False := by
  show wp (if lenOk x.length then ret (.int x.length) else fail) L Q E = _
  simp only [wp_ite, wp_ret, wp_fail]
@[simp] theorem wp_intI {i : Int} : wp (callB .intf [.int i]) L Q E = Q (.int i) L := rfl
theorem itemsOf_lst {l : Nat} {ws : List W} (h : L[l]? = some (.lst ws)) : itemsOf L (.ref l) = some ws := by unfold itemsOf; dsimp only; rw [h]
@[simp] theorem wp_setL {l : Nat} {k : Int} {w : W} {Q : Unit → Hh → Prop} : wp (setItem (.ref l) (.int k) w) L Q E = (match L[l]? with
    | some (.lst ws) => (match L2.ixN ws.length k with
      | some j => Q () (L.set l (.lst (ws.set j w)))
      | none => False)
    | _ => False) := by
  show wp (match L[l]? with
    | some (.lst ws) => (match L2.ixN ws.length k with
      | some j => put l (.lst (ws.set j w))
      | none => fail)
    | _ => fail) L Q E = _
  cases L[l]? with
  | none => rfl
  | some o =>
    cases o with
    | lst ws => dsimp only; cases L2.ixN ws.length k <;> rfl
    | _ => rfl
/-! targets, statements -/
@[simp] theorem wp_gnm {i : Nat} {w : W} {Q : Fr → Hh → Prop} : wp (asgT C (.nm i) w ρ) L Q E = Q (ρ.set i (some w)) L := rfl
@[simp] theorem wp_gtup {ts : List Tgt} {ws : List W} {Q : Fr → Hh → Prop} : wp (asgT C (.tup ts) (.tup ws) ρ) L Q E = wp (asgTs C ts ws ρ) L Q E := by simp only [asgT]
@[simp] theorem wp_gsub {o i : Ex} {w : W} {Q : Fr → Hh → Prop} : wp (asgT C (.sub o i) w ρ) L Q E = wp (evE C ρ o) L (fun x L1 => wp (evE C ρ i) L1 (fun y L2 => wp (setItem x y w) L2 (fun _ L3 => Q ρ L3) E) E) E := by simp only [asgT, wp_bnd, wp_ret]
@[simp] theorem wp_gs_nil {Q : Fr → Hh → Prop} : wp (asgTs C [] [] ρ) L Q E = Q ρ L := rfl
@[simp] theorem wp_gs_cons {t : Tgt} {ts : List Tgt} {w : W} {ws : List W} {Q : Fr → Hh → Prop} : wp (asgTs C (t :: ts) (w :: ws) ρ) L Q E = wp (asgT C t w ρ) L (fun ρ1 L1 => wp (asgTs C ts ws ρ1) L1 Q E) E := by simp only [asgTs, wp_bnd]
end
/-- what follows a statement -/
def thenS (C : Env) (xs : List Sm) (Q : Fl × Fr → Hh → Prop) (E : W → Hh → Prop) (r : Fl × Fr) (L : Hh) : Prop := match r.1 with
  | .nx => wp (exSs C xs r.2) L Q E
  | .rt w => Q (.rt w, r.2) L
  | .bk => Q (.bk, r.2) L
  | .ct => Q (.ct, r.2) L
  | .ex e => Q (.ex e, r.2) L
section
variable {ρ : Fr} {Q : Fl × Fr → Hh → Prop} {E : W → Hh → Prop} {xs : List Sm}
@[simp] theorem thenS_nx : thenS C xs Q E (.nx, ρ) L = wp (exSs C xs ρ) L Q E := rfl
@[simp] theorem thenS_rt {w : W} : thenS C xs Q E (.rt w, ρ) L = Q (.rt w, ρ) L := rfl
@[simp] theorem thenS_bk : thenS C xs Q E (.bk, ρ) L = Q (.bk, ρ) L := rfl
@[simp] theorem thenS_ct : thenS C xs Q E (.ct, ρ) L = Q (.ct, ρ) L := rfl
@[simp] theorem thenS_ex {e : W} : thenS C xs Q E (.ex e, ρ) L = Q (.ex e, ρ) L := rfl
@[simp] theorem wp_ss_nil : wp (exSs C [] ρ) L Q E = Q (.nx, ρ) L := rfl
@[simp] theorem wp_ss_cons {x : Sm} : wp (exSs C (x :: xs) ρ) L Q E = wp (exS C x ρ) L (thenS C xs Q E) E := by
  simp only [exSs, wp_bnd]
  congr 1; funext r L1
  obtain ⟨f, ρ1⟩ := r
  cases f <;> rfl
@[simp] theorem wp_asg {t : Tgt} {x : Ex} : wp (exS C (.asg t x) ρ) L Q E = wp (evE C ρ x) L (fun w L1 => wp (asgT C t w ρ) L1 (fun ρ1 L2 => Q (.nx, ρ1) L2) (fun e L2 => Q (.ex e, ρ) L2)) (fun e L1 => Q (.ex e, ρ) L1) := by simp only [exS, wp_sx, wp_ret]
@[simp] theorem wp_exp {x : Ex} : wp (exS C (.exp x) ρ) L Q E = wp (evE C ρ x) L (fun _ L1 => Q (.nx, ρ) L1) (fun e L1 => Q (.ex e, ρ) L1) := by simp only [exS, wp_sx, wp_ret]
@[simp] theorem wp_ifs {t : Tx} {a b : List Sm} : wp (exS C (.ifs t a b) ρ) L Q E = wp (evT C ρ t) L (fun k L1 => if k = true then wp (exSs C a ρ) L1 Q E else wp (exSs C b ρ) L1 Q E) (fun e L1 => Q (.ex e, ρ) L1) := by simp only [exS, wp_sx, wp_ite]
@[simp] theorem wp_rtn {x : Ex} : wp (exS C (.rtn x) ρ) L Q E = wp (evE C ρ x) L (fun w L1 => Q (.rt w, ρ) L1) (fun e L1 => Q (.ex e, ρ) L1) := by simp only [exS, wp_sx, wp_ret]
@[simp] theorem wp_rtnN : wp (exS C .rtnN ρ) L Q E = Q (.rt .non, ρ) L := rfl
@[simp] theorem wp_pas : wp (exS C .pas ρ) L Q E = Q (.nx, ρ) L := rfl
@[simp] theorem wp_brk : wp (exS C .brk ρ) L Q E = Q (.bk, ρ) L := rfl
@[simp] theorem wp_cnt : wp (exS C .cnt ρ) L Q E = Q (.ct, ρ) L := rfl
@[simp] theorem wp_end_rt {w : W} {Q : W → Hh → Prop} : wp (endOf (.rt w, ρ)) L Q E = Q w L := rfl
@[simp] theorem wp_end_nx {Q : W → Hh → Prop} : wp (endOf (.nx, ρ)) L Q E = Q .non L := rfl
@[simp] theorem wp_end_ex {e : W} {Q : W → Hh → Prop} : wp (endOf (.ex e, ρ)) L Q E = E e L := rfl
end
def fHand : Df := ⟨4, [
  .asg (.nm 1) (.lc [(("_law_cell" : PySem.Str), 2)] (.nm 2) (.e (.slc (.var 0) none (some (.ki 63)))) [] (.bi .intf [(.var 2)])),
  .asg (.nm 3) (.bin .add (.ki 5602) (.bin .mul (.ki 71) (.bi .len [(.var 1)]))),
  .fors (.nm 2) (.e (.var 1)) [
    .asg (.nm 3) (.bin .mod (.bi .intf [(.bin .add (.bin .mul (.var 3) (.ki 6971)) (.var 2))]) (.ki 2147483587))],
  .rtn (.lst [(.var 1), (.ki 0), (.ki 0), (.var 3)])]⟩
def fPick : Df := ⟨6, [
  .ifs (.bv (.cmp .lt (.sub (.var 0) (.ki 2)) (.ki 2))) [
    .asg (.sub (.var 0) (.ki 1)) (.bin .add (.sub (.var 0) (.ki 1)) (.ki 1)),
    .asg (.nm 2) (.bin .add (.sub (.var 0) (.ki 3)) (.bin .mul (.sub (.var 0) (.ki 1)) (.ki 9337))),
    .ifs (.bv (.cmp .le (.sub (.var 0) (.ki 1)) (.bi .len [(.sub (.var 0) (.ki 0))]))) [
      .asg (.nm 2) (.sub (.sub (.var 0) (.ki 0)) (.bin .sub (.sub (.var 0) (.ki 1)) (.ki 1)))] [],
    .ifs (.any [(.bv (.cmp .gt (.sub (.var 0) (.ki 1)) (.bi .len [(.sub (.var 0) (.ki 0))]))), (.bv (.cmp .lt (.var 2) (.bin .pow (.ki 10) (.ki 18))))]) [
      .asg (.nm 3) (.bin .mod (.bi .intf [(.bin .add (.bin .add (.bin .mul (.var 2) (.ki 39373)) (.bin .mul (.sub (.var 0) (.ki 1)) (.ki 40692))) (.sub (.var 0) (.ki 3)))]) (.ki 2147483647)),
      .asg (.nm 4) (.bin .mod (.bi .intf [(.bin .add (.bin .mul (.var 3) (.var 3)) (.bin .mul (.sub (.var 0) (.ki 1)) (.ki 52774)))]) (.ki 998244353)),
      .rtn (.bin .mod (.bin .fdiv (.bin .mod (.bi .intf [(.bin .add (.bin .mul (.var 4) (.ki 48271)) (.var 3))]) (.ki 2147483629)) (.ki 13)) (.var 1))] [],
    .asg (.sub (.var 0) (.ki 2)) (.var 2)] [],
  .asg (.nm 5) (.bin .mod (.bi .intf [(.sub (.var 0) (.ki 2))]) (.var 1)),
  .asg (.sub (.var 0) (.ki 2)) (.bin .fdiv (.bi .intf [(.sub (.var 0) (.ki 2))]) (.var 1)),
  .rtn (.var 5)]⟩
def fOf (t : Nat) : Df := ⟨2, [
  .rtn (.sub (.var 1) (.call t [(.var 0), (.bi .len [(.var 1)])] []))]⟩
/-- a hand stands at l: its cells' list at c -/
structure HandAt (L : Hh) (l c : Nat) (is : List Int) : Prop where
  hd : ∃ i z mk : Int, L[l]? = some (.lst [.ref c, .int i, .int z, .int mk]) ∧ 0 ≤ i
  cl : L[c]? = some (.lst (is.map W.int))
  ne : c ≠ l
theorem HandAt.same {L L' : Hh} {l c : Nat} {is : List Int} (h : HandAt L l c is) (k : ∀ (j : Nat) (o : O), L[j]? = some o → L'[j]? = some o) : HandAt L' l c is := by
  obtain ⟨⟨i, z, mk, h1, h2⟩, h3, h4⟩ := h
  exact ⟨⟨i, z, mk, k _ _ h1, h2⟩, k _ _ h3, h4⟩
theorem atI_ofNat {α : Type} (xs : List α) (k : Nat) (h : k < xs.length) : L2.atI xs (k : Int) = xs[k]? := by
  unfold L2.atI L2.ixN
  simp [h]
theorem pick_ok {l c : Nat} {is : List Int} {m : Int} {Q : W → Hh → Prop} {E : W → Hh → Prop} (h : HandAt L l c is) (hm : 0 < m) (hm2 : m < 1073741824)
    (hq : ∀ r L', 0 ≤ r → r < m → HandAt L' l c is → Same1 l L L' → Q (.int r) L') : wp (runD C fPick [.ref l, .int m]) L Q E := by
  obtain ⟨⟨i, z, mk, hl, hi⟩, hc, hne⟩ := h
  refine wp_runD (by simp [fPick]) ?_
  have e1 : ∀ o : O, (L.set l o)[l]? = some o := fun o => get_set hl
  have e2 : ∀ o : O, (L.set l o)[c]? = some (.lst (is.map W.int)) := fun o => by rw [List.getElem?_set_ne (Ne.symm hne)]; exact hc
  have fin : ∀ (r i' z' mk' : Int) (L' : Hh), Same1 l L L' → 0 ≤ i' → L'[l]? = some (.lst [.ref c, .int i', .int z', .int mk']) → Q (.int (r % m)) L' := fun r i' z' mk' L' sm hi' hl' =>
    hq _ _ (Int.emod_nonneg _ (by omega)) (Int.emod_lt_of_pos _ hm) ⟨⟨i', z', mk', hl', hi'⟩, by rw [sm.ne c hne]; exact hc, hne⟩ sm
  have sm0 := Same1.refl l L
  have i1 : 0 ≤ i + 1 := by omega
  by_cases hz : z < 2
  · by_cases hlen : i + 1 ≤ (is.length : Int)
    · have a1 : i < (is.length : Int) := by omega
      have a2 : ¬ ((is.length : Int) < i + 1) := by omega
      have a3 : i.toNat < is.length := by omega
      simp [fPick, hl, hc, itemsOf, L2.atI, L2.ixN, e1, e2, smallI, hz, hlen, hi, a1, a2, a3, hm, hm2, List.set_set]
      split
      · exact ⟨⟨by omega, by omega⟩, fin _ _ _ _ _ (sm0.set _) i1 (e1 _)⟩
      · exact fin _ _ _ _ _ (sm0.set _) i1 (e1 _)
    · have a2 : (is.length : Int) < i + 1 := by omega
      simp [fPick, hl, hc, itemsOf, L2.atI, L2.ixN, e1, e2, smallI, hz, hlen, hi, a2, hm, hm2]
      exact ⟨⟨by omega, by omega⟩, fin _ _ _ _ _ (sm0.set _) i1 (e1 _)⟩
  · simp [fPick, hl, hc, itemsOf, L2.atI, L2.ixN, e1, e2, smallI, hz, hi, hm, hm2]
    exact fin _ _ _ _ _ (sm0.set _) hi (e1 _)
end
end Dx

set_option maxRecDepth 100000
set_option maxHeartbeats 4000000
/-! Dx11: loops by invariants; the hand. -/
namespace Dx
open PySem
section
variable {C : Env} {L : Hh} {ρ : Fr}
@[simp] theorem wp_ie {x : Ex} {Q : Src → Hh → Prop} {E : W → Hh → Prop} : wp (evI C ρ (.e x)) L Q E = wp (evE C ρ x) L (fun w L1 => match w with
    | .ref l => (match itemsOf L1 (.ref l) with
      | some _ => Q (.seq l) L1
      | none => False)
    | .tup ws => Q (.vals ws) L1
    | .str x => Q (.vals (signs x)) L1
    | _ => False) E := by
  simp only [evI, wp_bnd]
  congr 1; funext w L1
  cases w <;> try rfl
  rename_i l
  show wp (match itemsOf L1 (.ref l) with
      | some _ => ret (.seq l)
      | none => fail) L1 Q E = _
  dsimp only
  cases itemsOf L1 (.ref l) <;> rfl
@[simp] theorem wp_irng {xs : List Ex} {Q : Src → Hh → Prop} {E : W → Hh → Prop} : wp (evI C ρ (.rng xs)) L Q E = wp (evEs C ρ xs) L (fun ws L1 => match ws with
    | [.int n] => if smallR n = true then Q (.rng 0 n.toNat) L1 else False
    | [.int a, .int b] => if (smallR a && smallR b) = true then Q (.rng a (b - a).toNat) L1 else False
    | _ => False) E := by
  simp only [evI, wp_bnd]
  congr 1; funext ws L1
  rcases ws with _ | ⟨a, _ | ⟨b, _ | ⟨d, r⟩⟩⟩
  · rfl
  · cases a <;> first | rfl | simp only [wp_ite, wp_ret, wp_fail]
  · cases a <;> cases b <;> first | rfl | simp only [wp_ite, wp_ret, wp_fail]
  · cases a <;> cases b <;> rfl
@[simp] theorem wp_ienum {x : Ex} {Q : Src → Hh → Prop} {E : W → Hh → Prop} : wp (evI C ρ (.enum x)) L Q E = wp (evE C ρ x) L (fun w L1 => match w with
    | .ref l => (match itemsOf L1 (.ref l) with
      | some _ => Q (.enum l) L1
      | none => False)
    | _ => False) E := by
  simp only [evI, wp_bnd]
  congr 1; funext w L1
  cases w <;> try rfl
  rename_i l
  show wp (match itemsOf L1 (.ref l) with
      | some _ => ret (.enum l)
      | none => fail) L1 Q E = _
  dsimp only
  cases itemsOf L1 (.ref l) <;> rfl
@[simp] theorem wp_izip {x y : Ex} {Q : Src → Hh → Prop} {E : W → Hh → Prop} : wp (evI C ρ (.zip x y)) L Q E = wp (evE C ρ x) L (fun w L1 => wp (evE C ρ y) L1 (fun v L2 => match w, v with
    | .ref a, .ref b => (match itemsOf L2 (.ref a), itemsOf L2 (.ref b) with
      | some _, some _ => Q (.zipL a b) L2
      | _, _ => False)
    | .tup xs, .tup ys => Q (.zipT xs ys) L2
    | _, _ => False) E) E := by
  simp only [evI, wp_bnd]
  congr 1; funext w L1
  congr 1; funext v L2
  cases w with
  | ref a =>
    cases v with
    | ref b =>
      show wp (match itemsOf L2 (.ref a), itemsOf L2 (.ref b) with
        | some _, some _ => ret (.zipL a b)
        | _, _ => fail) L2 Q E = _
      dsimp only
      cases itemsOf L2 (.ref a) <;> cases itemsOf L2 (.ref b) <;> rfl
    | _ => rfl
  | tup xs => cases v <;> rfl
  | _ => cases v <;> rfl
/-- a comprehension's turn -/
def turnC (C : Env) (ρ : Fr) (own : List (Str × Nat)) (t : Tgt) (cs : List Tx) (x : Ex) : W → M (Option W) := fun w => bnd (asgT C t w (wipeF ρ (own.map (·.2)))) fun ρ1 => bnd (tsAnd C ρ1 cs) fun b => if b = true then bnd (evE C ρ1 x) fun v => ret (some v) else ret none
theorem wp_turnC {own : List (Str × Nat)} {t : Tgt} {cs : List Tx} {x : Ex} {w : W} {Q : Option W → Hh → Prop} {E : W → Hh → Prop} : wp (turnC C ρ own t cs x w) L Q E = wp (asgT C t w (wipeF ρ (own.map (·.2)))) L (fun ρ1 L1 => wp (tsAnd C ρ1 cs) L1 (fun b L2 => if b = true then wp (evE C ρ1 x) L2 (fun v L3 => Q (some v) L3) E else Q none L2) E) E := by
  simp only [turnC, wp_bnd, wp_ite, wp_ret]
@[simp] theorem wp_lc {own : List (Str × Nat)} {t : Tgt} {it : It} {cs : List Tx} {x : Ex} {Q : W → Hh → Prop} {E : W → Hh → Prop} : wp (evE C ρ (.lc own t it cs x)) L Q E = wp (evI C ρ it) L (fun s L1 => wp (loopC s (turnC C ρ own t cs x) fuel 0 []) L1 (fun ws L2 => Q (.ref L2.length) (L2 ++ [.lst ws])) fun _ _ => False) E := by
  simp only [evE, wp_bnd, wp_noX]
  rfl
theorem loopC_inv {s : Src} {f : W → M (Option W)} {n : Nat} {Q : List W → Hh → Prop} {E : W → Hh → Prop} (Inv : Nat → List W → Hh → Prop)
    (hs : ∀ i acc L, i < n → Inv i acc L → ∃ w, srcAt L i s = some (some w) ∧ wp (f w) L (fun r L' => match r with
      | none => Inv (i + 1) acc L'
      | some v => acc.length < sizeLine ∧ Inv (i + 1) (acc ++ [v]) L') E)
    (he : ∀ acc L, Inv n acc L → srcAt L n s = some none ∧ Q acc L) : ∀ (N i : Nat) (acc : List W) (L : Hh), n - i < N → i ≤ n → Inv i acc L → wp (loopC s f N i acc) L Q E
  | 0, i, acc, L, h, _, _ => absurd h (Nat.not_lt_zero _)
  | N + 1, i, acc, L, h, hi, q => by
    show wp (match srcAt L i s with
    | none => fail
    | some none => ret acc
    | some (some w) => bnd (f w) fun r => match r with
      | none => loopC s f N (i + 1) acc
      | some v => if decide (acc.length < sizeLine) then loopC s f N (i + 1) (acc ++ [v]) else fail) L Q E
    by_cases hn : i < n
    · obtain ⟨w, e, q2⟩ := hs i acc L hn q
      rw [e]
      dsimp only
      rw [wp_bnd]
      refine wp_mono q2 (fun r L' z => ?_) fun _ _ z => z
      cases r with
      | none => exact loopC_inv Inv hs he N (i + 1) acc L' (by omega) hn z
      | some v =>
        dsimp only
        rw [if_pos (decide_eq_true z.1)]
        exact loopC_inv Inv hs he N (i + 1) _ L' (by omega) hn z.2
    · obtain rfl : i = n := by omega
      obtain ⟨e, q2⟩ := he acc L q
      rw [e]
      exact q2
theorem loopF_inv {s : Src} {g : W → Fr → M Fr} {b : Fr → M (Fl × Fr)} {n : Nat} {Q : Fl × Fr → Hh → Prop} {E : W → Hh → Prop} (Inv : Nat → Fr → Hh → Prop)
    (hs : ∀ i ρ L, i < n → Inv i ρ L → ∃ w, srcAt L i s = some (some w) ∧ wp (g w ρ) L (fun ρ1 L1 => wp (b ρ1) L1 (fun r L2 => match r.1 with
      | .nx => Inv (i + 1) r.2 L2
      | .ct => Inv (i + 1) r.2 L2
      | .bk => Q (.nx, r.2) L2
      | .rt w => Q (.rt w, r.2) L2
      | .ex e => Q (.ex e, r.2) L2) E) (fun e L1 => Q (.ex e, ρ) L1))
    (he : ∀ ρ L, Inv n ρ L → srcAt L n s = some none ∧ Q (.nx, ρ) L) : ∀ (N i : Nat) (ρ : Fr) (L : Hh), n - i < N → i ≤ n → Inv i ρ L → wp (loopF s g b N i ρ) L Q E
  | 0, i, ρ, L, h, _, _ => absurd h (Nat.not_lt_zero _)
  | N + 1, i, ρ, L, h, hi, q => by
    show wp (match srcAt L i s with
    | none => fail
    | some none => ret (.nx, ρ)
    | some (some w) => sx ρ (g w ρ) fun ρ1 => bnd (b ρ1) fun r => (match r.1 with
      | .nx => loopF s g b N (i + 1) r.2
      | .ct => loopF s g b N (i + 1) r.2
      | .bk => ret (.nx, r.2)
      | .rt w => ret (.rt w, r.2)
      | .ex e => ret (.ex e, r.2))) L Q E
    by_cases hn : i < n
    · obtain ⟨w, e, q2⟩ := hs i ρ L hn q
      rw [e]
      dsimp only
      rw [wp_sx]
      refine wp_mono q2 (fun ρ1 L1 z => ?_) fun _ _ z => z
      rw [wp_bnd]
      refine wp_mono z (fun r L2 z => ?_) fun _ _ z => z
      obtain ⟨fl, ρ2⟩ := r
      cases fl with
      | nx => exact loopF_inv Inv hs he N (i + 1) ρ2 L2 (by omega) hn z
      | ct => exact loopF_inv Inv hs he N (i + 1) ρ2 L2 (by omega) hn z
      | bk => exact z
      | rt w => exact z
      | ex e => exact z
    · obtain rfl : i = n := by omega
      obtain ⟨e, q2⟩ := he ρ L q
      rw [e]
      exact q2
@[simp] theorem wp_fors {t : Tgt} {it : It} {b : List Sm} {Q : Fl × Fr → Hh → Prop} {E : W → Hh → Prop} : wp (exS C (.fors t it b) ρ) L Q E = wp (evI C ρ it) L (fun s L1 => wp (loopF s (fun w ρ => asgT C t w ρ) (fun ρ => exSs C b ρ) fuel 0 ρ) L1 Q E) (fun e L1 => Q (.ex e, ρ) L1) := by simp only [exS, wp_sx]
theorem srcAt_seq {l i : Nat} {ws : List W} (h : L[l]? = some (.lst ws)) : srcAt L i (.seq l) = some ws[i]? := by
  show (itemsOf L (.ref l)).map _ = _
  rw [itemsOf_lst h]
  rfl
theorem lt_fuel {n : Nat} (h : n < 1099511627776) : n - 0 < fuel := by unfold fuel; omega
theorem hand_ok {ns : List Int} {Q : W → Hh → Prop} {E : W → Hh → Prop} (hq : ∀ (l c : Nat) (is : List Int) (L' : Hh), HandAt L' l c is → (∀ (j : Nat) (o : O), L[j]? = some o → L'[j]? = some o) → Q (.ref l) L') : wp (runD C fHand [.scr (ns.map W.int)]) L Q E := by
  refine wp_runD (by simp [fHand]) ?_
  obtain ⟨is, hl, e⟩ : ∃ is : List Int, is.length ≤ 63 ∧ cutL (ns.map W.int) none (some 63) = is.map W.int := by
    refine ⟨cutL ns none (some 63), ?_, ?_⟩
    · unfold cutL cutI
      rw [List.length_take]
      have : HT.sIx ns.length ns.length (some 63) ≤ 63 := by unfold HT.sIx; simp; omega
      omega
    · unfold cutL cutI
      simp [List.map_drop, List.map_take]
  have sc : ∀ (Q : W → Hh → Prop) (E : W → Hh → Prop), wp (sliceOf (.scr (ns.map W.int)) none (some 63)) L Q E = Q (.ref L.length) (L ++ [.lst (is.map W.int)]) := fun Q E => by
    show wp (alloc (.lst (cutL (ns.map W.int) none (some 63)))) L Q E = _
    rw [e]
    rfl
  have g1 : (L ++ [O.lst (is.map W.int)])[L.length]? = some (.lst (is.map W.int)) := get_new
  simp [fHand, sc, itemsOf_lst g1]
  have szl : (64 : Nat) < sizeLine := by rw [sizeLine_eq]; omega
  refine loopC_inv (n := is.length) (fun i acc L' => L' = L ++ [.lst (is.map W.int)] ∧ acc = (is.take i).map W.int) (fun i acc L' hi ⟨h1, h2⟩ => ?_) (fun acc L' ⟨h1, h2⟩ => ?_) _ 0 [] _ (lt_fuel (by omega)) (Nat.zero_le _) ⟨rfl, rfl⟩
  · subst h1 h2
    refine ⟨.int is[i], by rw [srcAt_seq g1]; simp [hi], ?_⟩
    simp [wp_turnC, wipeF]
    refine ⟨by omega, ?_⟩
    rw [List.take_add_one]
    simp [hi]
  · subst h1 h2
    refine ⟨by rw [srcAt_seq g1]; simp, ?_⟩
    rw [List.take_of_length_le (Nat.le_refl _)]
    have g2 : (L ++ [O.lst (is.map W.int), O.lst (is.map W.int)])[L.length + 1]? = some (.lst (is.map W.int)) := by
      rw [List.getElem?_append_right (by simp)]
      simp
    simp [itemsOf, smallI]
    refine loopF_inv (n := is.length) (fun i ρ L' => L' = L ++ [O.lst (is.map W.int), O.lst (is.map W.int)] ∧ ∃ (a : Option W) (mk : Int), ρ = [some (W.scr (ns.map W.int)), some (W.ref (L.length + 1)), a, some (W.int mk)]) (fun i ρ L' hi ⟨h1, a, mk, h2⟩ => ?_) (fun ρ L' ⟨h1, a, mk, h2⟩ => ?_) _ 0 _ _ (lt_fuel (by omega)) (Nat.zero_le _) ⟨rfl, _, _, rfl⟩
    · subst h1 h2
      refine ⟨.int is[i], by rw [srcAt_seq g2]; simp [hi], ?_⟩
      simp [smallI]
    · subst h1 h2
      refine ⟨by rw [srcAt_seq g2]; simp, ?_⟩
      have lo4 : lenOk 4 = true := by decide
      simp [lo4]
      refine hq _ (L.length + 1) is _ ⟨⟨0, 0, mk, ?_, by omega⟩, ?_, by omega⟩ fun j o e => ?_
      · rw [List.getElem?_append_right (by simp)]
        simp
      · rw [List.getElem?_append_right (by simp)]
        simp
      · rw [List.getElem?_append_left (lt_of_get e)]
        exact e
end
end Dx

set_option maxRecDepth 100000
set_option maxHeartbeats 4000000
/-! Dx12: drawing an item; joining signs. -/
namespace Dx
open PySem
section
variable {C C' : Env} {L : Hh}
theorem of_txt {t l c : Nat} {is : List Int} {x : Txt} {Q : W → Hh → Prop} {E : W → Hh → Prop} (hC : ∀ as, C.call t as = runD C' fPick (arrW as [.ix 0, .ix 1])) (h : HandAt L l c is) (h0 : 0 < x.length) (h1 : x.length < 1000)
    (hq : ∀ (s : Nat) (L' : Hh), s ∈ x → HandAt L' l c is → Same1 l L L' → Q (.str [s]) L') : wp (runD C (fOf t) [.ref l, .str x]) L Q E := by
  refine wp_runD (by simp [fOf]) ?_
  have lo : lenOk x.length = true := by unfold lenOk; rw [decide_eq_true_eq, sizeLine_eq]; omega
  simp [fOf, lo, hC, arrW]
  refine pick_ok h (by omega) (by omega) fun r L' r0 r1 h' sm => ?_
  obtain ⟨k, rfl⟩ := Int.eq_ofNat_of_zero_le r0
  have hk : k < x.length := by omega
  simp [lo, atI_ofNat x k hk, List.getElem?_eq_getElem hk]
  exact hq _ _ (List.getElem_mem hk) h' sm
theorem of_lst {t l c a : Nat} {is : List Int} {ws : List W} {Q : W → Hh → Prop} {E : W → Hh → Prop} (hC : ∀ as, C.call t as = runD C' fPick (arrW as [.ix 0, .ix 1])) (h : HandAt L l c is) (ha : L[a]? = some (.lst ws)) (hl : a ≠ l) (h0 : 0 < ws.length) (h1 : ws.length < 1000)
    (hq : ∀ (w : W) (L' : Hh), w ∈ ws → HandAt L' l c is → Same1 l L L' → Q w L') : wp (runD C (fOf t) [.ref l, .ref a]) L Q E := by
  refine wp_runD (by simp [fOf]) ?_
  simp [fOf, itemsOf_lst ha, hC, arrW]
  refine pick_ok h (by omega) (by omega) fun r L' r0 r1 h' sm => ?_
  obtain ⟨k, rfl⟩ := Int.eq_ofNat_of_zero_le r0
  have hk : k < ws.length := by omega
  have ha' : L'[a]? = some (.lst ws) := by rw [sm.ne a hl]; exact ha
  simp [itemsOf_lst ha', atI_ofNat ws k hk, List.getElem?_eq_getElem hk]
  exact hq _ _ (List.getElem_mem hk) h' sm
theorem Same1.keep {l : Nat} {L L' : Hh} (a : Same1 l L L') {j : Nat} {o : O} (h : L[j]? = some o) (hj : j ≠ l) : L'[j]? = some o := by rw [a.ne j hj]; exact h
/-- signs, joined -/
theorem join_signs : ∀ cs : List Nat, joinT [] (cs.map fun c => [c]) = cs
  | [] => rfl
  | [c] => rfl
  | c :: d :: cs => by
    show [c] ++ ([] ++ joinT [] ([d] :: cs.map fun c => [c])) = _
    have := join_signs (d :: cs)
    rw [show ([d] :: cs.map fun c => [c]) = (d :: cs).map (fun c => [c]) from rfl, this]
    rfl
theorem mapM_txt (ts : List Txt) : (ts.map W.str).mapM txtOf = some ts := by
  induction ts with
  | nil => rfl
  | cons t ts ih => rw [List.map_cons, List.mapM_cons, ih]; rfl
theorem sum_len (cs : List Nat) : ((cs.map fun c => [c]).map List.length).sum = cs.length := by
  induction cs with
  | nil => rfl
  | cons c cs ih => simp [ih] at *; omega
theorem wp_joinL {l : Nat} {ts : List Txt} {Q : W → Hh → Prop} {E : W → Hh → Prop} (h : L[l]? = some (.lst (ts.map W.str))) {sep : Txt} (hz : (ts.map List.length).sum + ts.length * sep.length ≤ 16777216) : wp (callM .join (.str sep) [.ref l]) L Q E = Q (.str (joinT sep ts)) L := by
  show wp (match (itemsOf L (.ref l)).bind fun ws => ws.mapM txtOf with
    | some ts => if decide ((ts.map List.length).sum + ts.length * sep.length ≤ 16777216) then ret (.str (joinT sep ts)) else fail
    | none => fail) L Q E = _
  rw [itemsOf_lst h, Option.bind_some, mapM_txt]
  simp only [wp_ite, decide_eq_true_eq, hz, if_true, wp_ret]
theorem insT_perm' (x : Txt) (xs : List Txt) : (insT x xs).Perm (x :: xs) := insT_perm x xs
/-- sorted signs are signs -/
theorem sort_signs (cs : List Nat) : ∃ ds : List Nat, ds.Perm cs ∧ sortT (cs.map fun c => [c]) = ds.map fun c => [c] := by
  have p := sortT_perm (cs.map fun c => [c])
  refine ⟨(sortT (cs.map fun c => [c])).map fun t => t.headD 0, ?_, ?_⟩
  · have q := p.map fun t : Txt => t.headD 0
    rw [List.map_map] at q
    have e : (fun t : Txt => t.headD 0) ∘ (fun c : Nat => [c]) = id := by funext c; rfl
    rw [e, List.map_id] at q
    exact q
  · rw [List.map_map]
    refine (List.map_id _).symm.trans (List.map_congr_left fun t ht => ?_)
    obtain ⟨c, _, rfl⟩ := List.mem_map.mp (p.mem_iff.mp ht)
    rfl
end
end Dx

set_option maxRecDepth 100000
set_option maxHeartbeats 0
namespace Q
open PySem PySem.Spec PyProof.Rows L2 Dx
def top (i : Nat) : Stmt := PySem.Challenge.pw_lastkept_k01_alphabets.main.body.getD i (.Pass ⟨0, 0, 0, 0⟩)
def f_law : Df := ⟨9, [
  .asg (.nm 1) (.call 0 [(.var 0)] []),
  .fors (.nm 2) (.rng [(.ki 12)]) [
    .asg (.nm 3) (.met .join (.ks []) [(.lc [(("_law_k" : PySem.Str), 4)] (.nm 4) (.rng [(.call 1 [(.var 1), (.ki 5)] [])]) [] (.call 2 [(.var 1), (.ks [97, 98, 99, 109, 121, 122])] []))]),
    .ifs (.bv (.cmp .eq (.call 1 [(.var 1), (.ki 2)] []) (.ki 0))) [
      .asg (.nm 3) (.met .join (.ks []) [(.bi .sortedf [(.var 3)])])] [],
    .asg (.nm 5) (.bin .add (.var 3) (.call 2 [(.var 1), (.lst [(.ks []), (.ks []), (.ks [65]), (.ks [49]), (.ks [32]), (.ks [95]), (.ks [126])])] [])),
    .asg (.nm 6) (.call 2 [(.var 1), (.lst [.kn, (.ki 3), (.kb true), (.tup [(.ks [97])]), (.lst [(.ks [97]), (.ks [98])]), (.tup [])])] []),
    .asg (.nm 7) (.lc [(("_law_token" : PySem.Str), 8)] (.nm 8) (.e (.lst [(.var 3), (.var 5)])) [] (.band [(.chn .le .le (.ki 1) (.bi .len [(.var 8)]) (.ki 3)), (.met .islower (.var 8) []), (.met .isalpha (.var 8) []), (.cmp .eq (.bi .listf [(.var 8)]) (.srtset (.var 8)))])),
    .ifs (.nt (.val (.call 3 [(.lst [(.call 4 [(.var 3)] []), (.call 4 [(.var 5)] []), (.call 5 [] [(.var 6)])]), (.bin .add (.var 7) (.lst [(.kb false)]))] []))) [
      .rtn (.kb false)] []],
  .rtn (.call 3 [(.lst [(.call 4 [(.ks [97, 98, 99])] []), (.call 4 [(.ks [97, 98, 99, 100])] []), (.call 4 [(.ks [])] []), (.call 4 [(.ks [98, 97])] []), (.call 4 [(.ks [122])] [])]), (.lst [(.kb true), (.kb false), (.kb false), (.kb false), (.kb true)])] [])]⟩
def f_law_hand : Df := ⟨4, [
  .asg (.nm 1) (.lc [(("_law_cell" : PySem.Str), 2)] (.nm 2) (.e (.slc (.var 0) none (some (.ki 63)))) [] (.bi .intf [(.var 2)])),
  .asg (.nm 3) (.bin .add (.ki 5602) (.bin .mul (.ki 71) (.bi .len [(.var 1)]))),
  .fors (.nm 2) (.e (.var 1)) [
    .asg (.nm 3) (.bin .mod (.bi .intf [(.bin .add (.bin .mul (.var 3) (.ki 6971)) (.var 2))]) (.ki 2147483587))],
  .rtn (.lst [(.var 1), (.ki 0), (.ki 0), (.var 3)])]⟩
def f_law_pick : Df := ⟨6, [
  .ifs (.bv (.cmp .lt (.sub (.var 0) (.ki 2)) (.ki 2))) [
    .asg (.sub (.var 0) (.ki 1)) (.bin .add (.sub (.var 0) (.ki 1)) (.ki 1)),
    .asg (.nm 2) (.bin .add (.sub (.var 0) (.ki 3)) (.bin .mul (.sub (.var 0) (.ki 1)) (.ki 9337))),
    .ifs (.bv (.cmp .le (.sub (.var 0) (.ki 1)) (.bi .len [(.sub (.var 0) (.ki 0))]))) [
      .asg (.nm 2) (.sub (.sub (.var 0) (.ki 0)) (.bin .sub (.sub (.var 0) (.ki 1)) (.ki 1)))] [],
    .ifs (.any [(.bv (.cmp .gt (.sub (.var 0) (.ki 1)) (.bi .len [(.sub (.var 0) (.ki 0))]))), (.bv (.cmp .lt (.var 2) (.bin .pow (.ki 10) (.ki 18))))]) [
      .asg (.nm 3) (.bin .mod (.bi .intf [(.bin .add (.bin .add (.bin .mul (.var 2) (.ki 39373)) (.bin .mul (.sub (.var 0) (.ki 1)) (.ki 40692))) (.sub (.var 0) (.ki 3)))]) (.ki 2147483647)),
      .asg (.nm 4) (.bin .mod (.bi .intf [(.bin .add (.bin .mul (.var 3) (.var 3)) (.bin .mul (.sub (.var 0) (.ki 1)) (.ki 52774)))]) (.ki 998244353)),
      .rtn (.bin .mod (.bin .fdiv (.bin .mod (.bi .intf [(.bin .add (.bin .mul (.var 4) (.ki 48271)) (.var 3))]) (.ki 2147483629)) (.ki 13)) (.var 1))] [],
    .asg (.sub (.var 0) (.ki 2)) (.var 2)] [],
  .asg (.nm 5) (.bin .mod (.bi .intf [(.sub (.var 0) (.ki 2))]) (.var 1)),
  .asg (.sub (.var 0) (.ki 2)) (.bin .fdiv (.bi .intf [(.sub (.var 0) (.ki 2))]) (.var 1)),
  .rtn (.var 5)]⟩
def f_law_of : Df := ⟨2, [
  .rtn (.sub (.var 1) (.call 1 [(.var 0), (.bi .len [(.var 1)])] []))]⟩
def f_law_same : Df := ⟨4, [
  .ifs (.bv (.cmp .is (.var 1) .kn)) [
    .rtn (.cmp .is (.var 0) .kn)] [],
  .ifs (.any [(.val (.isi (.var 1) (.ty "bool"))), (.val (.isi (.var 0) (.ty "bool")))]) [
    .rtn (.band [(.isi (.var 1) (.ty "bool")), (.isi (.var 0) (.ty "bool")), (.cmp .eq (.var 0) (.var 1))])] [],
  .ifs (.val (.isis (.var 1) [(.ty "int"), (.ty "str")])) [
    .rtn (.band [(.isis (.var 0) [(.ty "int"), (.ty "str")]), (.cmp .eq (.isi (.var 0) (.ty "int")) (.isi (.var 1) (.ty "int"))), (.cmp .eq (.var 0) (.var 1))])] [],
  .ifs (.any [(.bv (.cmp .ne (.isi (.var 1) (.ty "list")) (.isi (.var 0) (.ty "list")))), (.bv (.cmp .ne (.isi (.var 1) (.ty "tuple")) (.isi (.var 0) (.ty "tuple"))))]) [
    .rtn (.kb false)] [],
  .rtn (.band [(.cmp .eq (.bi .len [(.var 0)]) (.bi .len [(.var 1)])), (.bi .allf [(.lc [(("_law_one" : PySem.Str), 2), (("_law_two" : PySem.Str), 3)] (.tup [(.nm 2), (.nm 3)]) (.zip (.var 0) (.var 1)) [] (.call 3 [(.var 2), (.var 3)] []))])])]⟩
def f_is_alphabet : Df := ⟨2, [
  .ifs (.any [(.nt (.val (.isi (.var 0) (.ty "str")))), (.nt (.bv (.chn .le .le (.ki 1) (.bi .len [(.var 0)]) (.gi ("MOST_LETTERS" : PySem.Str) 3))))]) [
    .rtn (.kb false)] [],
  .rtn (.band [(.bi .allf [(.lc [(("sign" : PySem.Str), 1)] (.nm 1) (.e (.var 0)) [] (.cmp .inn (.var 1) (.gs ("SMALL" : PySem.Str) [97, 98, 99, 100, 101, 102, 103, 104, 105, 106, 107, 108, 109, 110, 111, 112, 113, 114, 115, 116, 117, 118, 119, 120, 121, 122])))]), (.cmp .eq (.var 0) (.met .join (.ks []) [(.srtset (.var 0))]))])]⟩
def prog : Dx.Tm := ⟨[f_law, f_law_hand, f_law_pick, f_law_of, f_law_same, f_is_alphabet], [(1, ([0]).map .ix), (2, ([0, 1]).map .ix), (3, ([0, 1]).map .ix), (4, ([0, 1]).map .ix), (5, ([0]).map .ix), (5, ([0]).map .ix)]⟩
def pg : Dx.Pg := ⟨[(("MOST_LETTERS" : PySem.Str), 3)], [(("SMALL" : PySem.Str), [97, 98, 99, 100, 101, 102, 103, 104, 105, 106, 107, 108, 109, 110, 111, 112, 113, 114, 115, 116, 117, 118, 119, 120, 121, 122])], [("range" : PySem.Str), ("sorted" : PySem.Str), ("len" : PySem.Str), ("list" : PySem.Str), ("set" : PySem.Str), ("int" : PySem.Str), ("isinstance" : PySem.Str), ("bool" : PySem.Str), ("str" : PySem.Str), ("tuple" : PySem.Str), ("all" : PySem.Str), ("zip" : PySem.Str)], [⟨("_law_hand" : PySem.Str), 1, []⟩, ⟨("_law_pick" : PySem.Str), 2, []⟩, ⟨("_law_of" : PySem.Str), 2, []⟩, ⟨("_law_same" : PySem.Str), 2, []⟩, ⟨("is_alphabet" : PySem.Str), 1, []⟩, ⟨("is_alphabet" : PySem.Str), 0, [("value" : PySem.Str)]⟩]⟩
abbrev s_law : Stmt := top 9
def r_law : Rw := ⟨⟨(("law" : PySem.Str), none), ("law" : PySem.Str), ("law" : PySem.Str), defArgs s_law, defBody s_law, defScope s_law, [], []⟩, [("_law_script" : PySem.Str), ("_law_hand_here" : PySem.Str), ("_law_turn" : PySem.Str), ("_law_wording" : PySem.Str), ("_law_k" : PySem.Str), ("_law_bent" : PySem.Str), ("_law_odd" : PySem.Str), ("_law_due" : PySem.Str), ("_law_token" : PySem.Str)], [("_law_script" : PySem.Str)]⟩
abbrev s_law_hand : Stmt := top 5
def r_law_hand : Rw := ⟨⟨(("_law_hand" : PySem.Str), none), ("_law_hand" : PySem.Str), ("_law_hand" : PySem.Str), defArgs s_law_hand, defBody s_law_hand, defScope s_law_hand, [], []⟩, [("_law_script" : PySem.Str), ("_law_cells" : PySem.Str), ("_law_cell" : PySem.Str), ("_law_mark" : PySem.Str)], [("_law_script" : PySem.Str)]⟩
abbrev s_law_pick : Stmt := top 6
def r_law_pick : Rw := ⟨⟨(("_law_pick" : PySem.Str), none), ("_law_pick" : PySem.Str), ("_law_pick" : PySem.Str), defArgs s_law_pick, defBody s_law_pick, defScope s_law_pick, [], []⟩, [("_law_hand_here" : PySem.Str), ("_law_many" : PySem.Str), ("_law_cell" : PySem.Str), ("_law_one" : PySem.Str), ("_law_two" : PySem.Str), ("_law_drawn" : PySem.Str)], [("_law_hand_here" : PySem.Str), ("_law_many" : PySem.Str)]⟩
abbrev s_law_of : Stmt := top 7
def r_law_of : Rw := ⟨⟨(("_law_of" : PySem.Str), none), ("_law_of" : PySem.Str), ("_law_of" : PySem.Str), defArgs s_law_of, defBody s_law_of, defScope s_law_of, [], []⟩, [("_law_hand_here" : PySem.Str), ("_law_items" : PySem.Str)], [("_law_hand_here" : PySem.Str), ("_law_items" : PySem.Str)]⟩
abbrev s_law_same : Stmt := top 8
def r_law_same : Rw := ⟨⟨(("_law_same" : PySem.Str), none), ("_law_same" : PySem.Str), ("_law_same" : PySem.Str), defArgs s_law_same, defBody s_law_same, defScope s_law_same, [], []⟩, [("_law_found" : PySem.Str), ("_law_due" : PySem.Str), ("_law_one" : PySem.Str), ("_law_two" : PySem.Str)], [("_law_found" : PySem.Str), ("_law_due" : PySem.Str)]⟩
abbrev s_is_alphabet : Stmt := top 3
def r_is_alphabet : Rw := ⟨⟨(("is_alphabet" : PySem.Str), none), ("is_alphabet" : PySem.Str), ("is_alphabet" : PySem.Str), defArgs s_is_alphabet, defBody s_is_alphabet, defScope s_is_alphabet, [], []⟩, [("value" : PySem.Str), ("sign" : PySem.Str)], [("value" : PySem.Str)]⟩
def fn : List He.DefD := [r_law.dd, r_law_hand.dd, r_law_pick.dd, r_law_of.dd, r_law_same.dd, r_is_alphabet.dd]
def ex : List He.Fa := [.glo "law"]
theorem b_law : rowB pg r_law f_law = true := by decide +kernel
theorem b_law_hand : rowB pg r_law_hand f_law_hand = true := by decide +kernel
theorem b_law_pick : rowB pg r_law_pick f_law_pick = true := by decide +kernel
theorem b_law_of : rowB pg r_law_of f_law_of = true := by decide +kernel
theorem b_law_same : rowB pg r_law_same f_law_same = true := by decide +kernel
theorem b_is_alphabet : rowB pg r_is_alphabet f_is_alphabet = true := by decide +kernel
theorem noT : (t : Nat) → t ≥ 6 → pg.tg[t]? = none := fun t h => List.getElem?_eq_none h
theorem hD {K : PySem.W.Frag} {h : Heap} {mg : Str → Option Value} {T : Dx.Tab} (X : K.In h) (G : h.Ns mainGlobals mg) (c : He.SaysD (pg.fa ++ ex) fn K) : ∀ t g, pg.tg[t]? = some g → ∃ f, mg g.name = some (.ref f) ∧ PySem.W.keepIn K (.ref f) = true ∧ DefOk T pg prog K t g f := by
  intro t g e
  have e0 := e
  match t, e with
  | 0, e =>
    cases e
    have z := defOk_of (T := T) (p := pg) (Tp := prog) c (t := 0) (g := ⟨("_law_hand" : PySem.Str), 1, []⟩) (r := r_law_hand) (List.mem_of_getElem? (i := 1) rfl) rfl rfl b_law_hand (fun fd F => bindK_pure F [0] rfl rfl fun _ _ _ _ _ _ us ws l1 l2 => match us, ws, l1, l2 with | [_], [], _, _ => rfl)
    exact ⟨_, glo_of X G c e0, z.1, z.2⟩
  | 1, e =>
    cases e
    have z := defOk_of (T := T) (p := pg) (Tp := prog) c (t := 1) (g := ⟨("_law_pick" : PySem.Str), 2, []⟩) (r := r_law_pick) (List.mem_of_getElem? (i := 2) rfl) rfl rfl b_law_pick (fun fd F => bindK_pure F [0, 1] rfl rfl fun _ _ _ _ _ _ us ws l1 l2 => match us, ws, l1, l2 with | [_, _], [], _, _ => rfl)
    exact ⟨_, glo_of X G c e0, z.1, z.2⟩
  | 2, e =>
    cases e
    have z := defOk_of (T := T) (p := pg) (Tp := prog) c (t := 2) (g := ⟨("_law_of" : PySem.Str), 2, []⟩) (r := r_law_of) (List.mem_of_getElem? (i := 3) rfl) rfl rfl b_law_of (fun fd F => bindK_pure F [0, 1] rfl rfl fun _ _ _ _ _ _ us ws l1 l2 => match us, ws, l1, l2 with | [_, _], [], _, _ => rfl)
    exact ⟨_, glo_of X G c e0, z.1, z.2⟩
  | 3, e =>
    cases e
    have z := defOk_of (T := T) (p := pg) (Tp := prog) c (t := 3) (g := ⟨("_law_same" : PySem.Str), 2, []⟩) (r := r_law_same) (List.mem_of_getElem? (i := 4) rfl) rfl rfl b_law_same (fun fd F => bindK_pure F [0, 1] rfl rfl fun _ _ _ _ _ _ us ws l1 l2 => match us, ws, l1, l2 with | [_, _], [], _, _ => rfl)
    exact ⟨_, glo_of X G c e0, z.1, z.2⟩
  | 4, e =>
    cases e
    have z := defOk_of (T := T) (p := pg) (Tp := prog) c (t := 4) (g := ⟨("is_alphabet" : PySem.Str), 1, []⟩) (r := r_is_alphabet) (List.mem_of_getElem? (i := 5) rfl) rfl rfl b_is_alphabet (fun fd F => bindK_pure F [0] rfl rfl fun _ _ _ _ _ _ us ws l1 l2 => match us, ws, l1, l2 with | [_], [], _, _ => rfl)
    exact ⟨_, glo_of X G c e0, z.1, z.2⟩
  | 5, e =>
    cases e
    have z := defOk_of (T := T) (p := pg) (Tp := prog) c (t := 5) (g := ⟨("is_alphabet" : PySem.Str), 0, [("value" : PySem.Str)]⟩) (r := r_is_alphabet) (List.mem_of_getElem? (i := 5) rfl) rfl rfl b_is_alphabet (fun fd F => bindK_pure F [0] rfl rfl fun _ _ _ _ _ _ us ws l1 l2 => match us, ws, l1, l2 with | [], [_], _, _ => rfl)
    exact ⟨_, glo_of X G c e0, z.1, z.2⟩
  | t + 6, e => rw [noT _ (by omega)] at e; cases e
abbrev R : PySem.W.OpenRow := PySem.W.OpenLaw.row PySem.Challenge.rw_lastkept_k01_alphabets
abbrev hk : PySem.W.Hook := He.hookD 10 (pg.fa ++ ex) fn
def ob (s : PySem.W.SharedT) : He.AlD := He.obsDG 10 (pg.fa ++ ex) fn (HandSHeadRun.getT s)
theorem ob_eq (s : PySem.W.SharedT) : ob s = hk.obs s.abs := He.obsDG_eq (HandSHeadRun.getT_eq s)
def loose : List PySem.Str := ([("SMALL" : PySem.Str), ("MOST_LETTERS" : PySem.Str), ("is_alphabet" : PySem.Str), ("_law_hand" : PySem.Str), ("_law_pick" : PySem.Str), ("_law_of" : PySem.Str), ("_law_same" : PySem.Str)] : List PySem.Str)
theorem run (w : World) : HandSHeadRun.RunEq R (PySem.W.view R.prog [9]) hk ob 20000 loose w := by
  intro os
  kernel_rfl
def Tb : Dx.Tab := ⟨[], [], fun _ _ _ _ _ => False⟩
/-- WHAT IS LEFT: the plain law -/
def Plain : Prop := ∀ ns : List Int, ns.length ≤ 63 → wp (runD (envD prog 40) f_law [.scr (ns.map W.int)]) [] (fun w _ => w = .bl true) fun _ _ => False
theorem holds_of (pl : Plain) : PySem.Challenge.rw_lastkept_k01_alphabets.Holds := by
  w_on; o_law
  refine HandSHeadRun.head_any (r := PySem.W.OpenLaw.row PySem.Challenge.rw_lastkept_k01_alphabets) (q := PySem.W.view (PySem.W.OpenLaw.row PySem.Challenge.rw_lastkept_k01_alphabets).prog [9]) (H := hk) (ob := ob) (M := 20000) (loose := loose) (d := HandSHeadRun.topDef (PySem.W.OpenLaw.row PySem.Challenge.rw_lastkept_k01_alphabets).prog 9) (kwd := []) ob_eq
    (by kernel_rfl) (fun s => by kernel_rfl) run (by kernel_rfl) (by kernel_rfl) (by kernel_rfl) (by rfl) (by first | assumption | decide +kernel) (by decide +kernel) ⟨rfl, rfl, rfl, rfl, rfl, by decide +kernel⟩ ?hw ?hc
  case hw => w_witness2
  case hc =>
    refine walk_dx (l := PySem.Challenge.rw_lastkept_k01_alphabets) (n := 63) (k := 41) (x := "_law_script") (CX := fun w => L2.CX (PySem.Challenge.rw_lastkept_k01_alphabets).prog w) rfl (by decide) (by kernel_rfl) ⟨rfl, by decide, by decide⟩ ?F hCX_of
    intro w mg fa h Y G hmg0
    obtain ⟨K, KX, c⟩ := Y
    have hmg : mg ("law" : PySem.Str) = some (.ref fa) := by
      have e : (HandSHeadRun.topDef (PySem.W.OpenLaw.row PySem.Challenge.rw_lastkept_k01_alphabets).prog 9).name = ("law" : PySem.Str) := by kernel_rfl
      rw [← e]
      exact hmg0
    obtain ⟨fd, F⟩ := c.defs (d := r_law.dd) (List.mem_of_getElem? (i := 0) rfl)
    have e := hmg.symm.trans (He.glo_ok KX G (c.facts (f := .glo "law") (by simp [ex])))
    cases e
    have hb := b_law
    simp only [rowB, Bool.and_eq_true, decide_eq_true_eq] at hb
    have bA := FunD.bindsA (ps := r_law.ps) F fun _ _ _ _ _ _ us hl => match us, hl with | [_], _ => rfl
    exact ⟨K, fd, fun base => spD Tb (PySem.Challenge.rw_lastkept_k01_alphabets).prog w K mg base (envD prog 40) f_law 1, KX, fun s v => bA s [v] rfl, fun b H a ns hl hO hS => law_sp hO hS (pl ns hl), fun base hb1 hb2 => fnok_step (ps := r_law.ps) (pgOk_of KX G c) F (scB_ok hb.1.1) hb.1.2 hb.2 (callable_all (pgOk_of KX G c) (hD KX G c) 40)⟩
end Q

set_option maxRecDepth 100000
set_option maxHeartbeats 4000000
/-! K01: the plain law. -/
namespace Q
open PySem Dx
abbrev Cd (d : Nat) : Dx.Env := envD prog d
theorem c_hand (d : Nat) (as : List W) : (Cd (d + 1)).call 0 as = runD (Cd d) fHand (arrW as [.ix 0]) := envD_call rfl rfl as
theorem c_pick (d : Nat) (as : List W) : (Cd (d + 1)).call 1 as = runD (Cd d) fPick (arrW as [.ix 0, .ix 1]) := envD_call rfl rfl as
theorem c_of (d : Nat) (as : List W) : (Cd (d + 1)).call 2 as = runD (Cd d) (fOf 1) (arrW as [.ix 0, .ix 1]) := envD_call rfl rfl as
theorem c_same (d : Nat) (as : List W) : (Cd (d + 1)).call 3 as = runD (Cd d) f_law_same (arrW as [.ix 0, .ix 1]) := envD_call rfl rfl as
theorem c_alpha (d : Nat) (as : List W) : (Cd (d + 1)).call 4 as = runD (Cd d) f_is_alphabet (arrW as [.ix 0]) := envD_call rfl rfl as
theorem c_alphaK (d : Nat) (as : List W) : (Cd (d + 1)).call 5 as = runD (Cd d) f_is_alphabet (arrW as [.ix 0]) := envD_call rfl rfl as
section
variable {L : Hh} {Q : W → Hh → Prop} {E : W → Hh → Prop} {C : Dx.Env}
theorem eqv_b (a b : Bool) : PyData.eqv (.bool a) (.bool b) = (a == b) := by cases a <;> cases b <;> rfl
theorem same_b {a b : Bool} (hq : Q (.bl (a == b)) L) : wp (runD C f_law_same [.bl a, .bl b]) L Q E := by
  refine wp_runD (by simp [f_law_same]) ?_
  have s1 : ∀ b : Bool, SeqAt.shaped (.bool b) = true := by decide
  simp [f_law_same, isNone, isKind, anyKind, typeNm, asData, s1, eqv_b]
  exact hq
theorem mapM_bl (bs : List Bool) : (bs.map W.bl).mapM blOf = some bs := by
  induction bs with
  | nil => rfl
  | cons t ts ih => rw [List.map_cons, List.mapM_cons, ih]; rfl
theorem wp_allL {l : Nat} {bs : List Bool} (h : L[l]? = some (.lst (bs.map W.bl))) : wp (callB .allf [.ref l]) L Q E = Q (.bl (bs.all id)) L := by
  show wp (match (itemsOf L (.ref l)).bind fun ws => ws.mapM blOf with
    | some bs => ret (.bl (bs.all id))
    | none => fail) L Q E = _
  rw [itemsOf_lst h, Option.bind_some, mapM_bl]
  rfl
/-- two lists of booleans -/
theorem same_l {d x y : Nat} {as bs : List Bool} (h1 : L[x]? = some (.lst (as.map W.bl))) (h2 : L[y]? = some (.lst (bs.map W.bl))) (hl : as.length = bs.length) (hz : as.length < 1000)
    (hq : ∀ L' : Hh, (∀ (j : Nat) (o : O), L[j]? = some o → L'[j]? = some o) → Q (.bl ((as.zip bs).all fun p => p.1 == p.2)) L') : wp (runD (Cd (d + 1)) f_law_same [.ref x, .ref y]) L Q E := by
  refine wp_runD (by simp [f_law_same]) ?_
  have s0 : ∀ i : Int, SeqAt.shaped (.int i) = true := fun i => by simp [SeqAt.shaped, PyData.canLay0, PyData.depth]
  have s1 : ∀ b : Bool, SeqAt.shaped (.bool b) = true := by decide
  have e1 : ∀ i : Int, PyData.eqv (.int i) (.int i) = true := fun i => by simp [PyData.eqv]
  simp [f_law_same, isNone, isKind, anyKind, typeNm, h1, h2, asData, s1, eqv_b, itemsOf, s0, hl, e1]
  have szl : (1000 : Nat) < sizeLine := by rw [sizeLine_eq]; omega
  refine loopC_inv (n := as.length) (fun i acc L' => L' = L ∧ acc = (((as.zip bs).take i).map fun p => p.1 == p.2).map W.bl) (fun i acc L' hi ⟨h3, h4⟩ => ?_) (fun acc L' ⟨h3, h4⟩ => ?_) _ 0 [] _ (lt_fuel (by omega)) (Nat.zero_le _) ⟨rfl, rfl⟩
  · subst h3 h4
    refine ⟨.tup [.bl as[i], .bl bs[i]], by simp [srcAt, itemsOf, h1, h2, hi, show i < bs.length by omega], ?_⟩
    simp [wp_turnC, wipeF, c_same, arrW]
    refine same_b ?_
    have hz2 : i < (as.zip bs).length := by rw [List.length_zip]; omega
    refine ⟨by omega, rfl, ?_⟩
    rw [List.take_add_one, List.getElem?_map, List.getElem?_eq_getElem hz2]
    simp [List.getElem_zip]
  · subst h3 h4
    refine ⟨by simp [srcAt, itemsOf, h1, h2, hl], ?_⟩
    have g := get_new (L := L') (o := .lst ((((as.zip bs).take as.length).map fun p => p.1 == p.2).map W.bl))
    rw [wp_allL g]
    have e3 : ((as.zip bs).take as.length) = as.zip bs := List.take_of_length_le (by simp only [List.length_zip]; omega)
    rw [e3]
    rw [List.all_map]
    exact hq _ fun j o e => get_old e
/-! ### alphabets -/
abbrev small : Txt := [97, 98, 99, 100, 101, 102, 103, 104, 105, 106, 107, 108, 109, 110, 111, 112, 113, 114, 115, 116, 117, 118, 119, 120, 121, 122]
theorem dedup_sing : ∀ cs : List Nat, dedup (cs.map fun c => [c]) = (dedup cs).map fun c => [c]
  | [] => rfl
  | c :: cs => by
    have ih := dedup_sing cs
    rw [List.map_cons]
    unfold dedup
    rw [ih]
    by_cases h : c ∈ dedup cs
    · simp [h]
    · simp [h]
theorem dedup_len {α : Type} [DecidableEq α] : ∀ l : List α, (dedup l).length ≤ l.length
  | [] => Nat.le_refl _
  | x :: l => by
    unfold dedup
    split
    · exact Nat.le_succ_of_le (dedup_len l)
    · simp [dedup_len l]
/-- the signs of t, each once, in their order -/
theorem srt_ex (t : Txt) : ∃ ds : Txt, sortT (dedup (t.map fun c => [c])) = ds.map (fun c => [c]) ∧ ds.length ≤ t.length := by
  rw [dedup_sing]
  obtain ⟨ds, p, e⟩ := sort_signs (dedup t)
  exact ⟨ds, e, by rw [p.length_eq]; exact dedup_len t⟩
def srt (t : Txt) : Txt := joinT [] (sortT (dedup (t.map fun c => [c])))
theorem srt_eq (t : Txt) : sortT (dedup (t.map fun c => [c])) = (srt t).map fun c => [c] := by
  obtain ⟨ds, e, _⟩ := srt_ex t
  unfold srt
  rw [e, join_signs]
theorem srt_len (t : Txt) : (srt t).length ≤ t.length := by
  obtain ⟨ds, e, h⟩ := srt_ex t
  unfold srt
  rw [e, join_signs]
  exact h
theorem srt_mem {t : Txt} {c : Nat} (h : c ∈ srt t) : c ∈ t := by
  have p := sortT_perm (dedup (t.map fun c => [c]))
  rw [srt_eq] at p
  have h2 : [c] ∈ (srt t).map fun c => [c] := List.mem_map.mpr ⟨c, h, rfl⟩
  obtain ⟨d, hd, e⟩ := List.mem_map.mp (dedup_mem.mp (p.mem_iff.mp h2))
  cases e
  exact hd
def isA (t : Txt) : Bool := decide (1 ≤ t.length) && decide (t.length ≤ 3) && t.all (fun c => decide (c ∈ small)) && (t == srt t)
theorem eqv_s (a b : Txt) : PyData.eqv (.str ⟨a.toArray⟩) (.str ⟨b.toArray⟩) = (a == b) := by
  show ((⟨a.toArray⟩ : Str) == ⟨b.toArray⟩) = _
  exact SX.S_beq a b
theorem wp_sortSet {t : Txt} (h : t.length < 4000) : wp (sortSet (.str t)) L Q E = Q (.ref L.length) (L ++ [.lst (((srt t).map fun c => [c]).map W.str)]) := by
  show wp (if decide (t.length < 4000) = true then alloc (.lst ((sortT (dedup (t.map fun c => [c]))).map .str)) else fail) L Q E = _
  rw [if_pos (decide_eq_true h), srt_eq]
  rfl
theorem alpha_s {t : Txt} (hs : ∀ c ∈ t, c < 0x110000) (hz : t.length < 1000) (hq : ∀ L' : Hh, (∀ (j : Nat) (o : O), L[j]? = some o → L'[j]? = some o) → Q (.bl (isA t)) L') : wp (runD C f_is_alphabet [.str t]) L Q E := by
  refine wp_runD (by simp [f_is_alphabet]) ?_
  have lo : lenOk t.length = true := by unfold lenOk; rw [decide_eq_true_eq, sizeLine_eq]; omega
  have self : Q (.bl (isA t)) L := hq L fun _ _ e => e
  by_cases h1 : 1 ≤ t.length
  · by_cases h3 : t.length ≤ 3
    · have h1' : (1 : Int) ≤ t.length := by omega
      have h3' : (t.length : Int) ≤ 3 := by omega
      simp [f_is_alphabet, isKind, typeNm, lo, h1, h3, h1', h3']
      have szl : (1000 : Nat) < sizeLine := by rw [sizeLine_eq]; omega
      refine loopC_inv (n := t.length) (fun i acc L' => L' = L ∧ acc = ((t.take i).map fun c => decide (c ∈ small)).map W.bl) (fun i acc L' hi ⟨g1, g2⟩ => ?_) (fun acc L' ⟨g1, g2⟩ => ?_) _ 0 [] _ (lt_fuel (by omega)) (Nat.zero_le _) ⟨rfl, rfl⟩
      · subst g1 g2
        refine ⟨.str [t[i]], by show some (signs t)[i]? = _; simp [signs, hi], ?_⟩
        rw [wp_turnC]
        have hti : t[i]? = some t[i] := List.getElem?_eq_getElem hi
        have k : ∀ (Q : W → Hh → Prop) (E : W → Hh → Prop), wp (cmpop .inn (.str [t[i]]) (.str small)) L' Q E = Q (.bl (decide (t[i] ∈ small))) L' := fun _ _ => rfl
        simp only [wipeF, List.map_cons, List.map_nil, wp_gnm, wp_ta_nil, if_true, wp_cmp, wp_var, wp_gs, List.set_cons_succ, List.set_cons_zero, List.getElem?_cons_succ, List.getElem?_cons_zero]
        rw [k]
        refine ⟨?_, rfl, ?_⟩
        · rw [List.length_map, List.length_map, List.length_take]; omega
        · rw [List.take_add_one, hti, Option.toList_some, List.map_append, List.map_append]; rfl
      · subst g1 g2
        refine ⟨by show some (signs t)[t.length]? = _; simp [signs], ?_⟩
        rw [List.take_of_length_le (Nat.le_refl _)]
        rw [wp_allL get_new]
        have ea : ((t.map fun c => decide (c ∈ small)).all id) = t.all fun c => decide (c ∈ small) := by rw [List.all_map]; rfl
        rw [ea]
        dsimp only
        by_cases hal : t.all (fun c => decide (c ∈ small)) = true
        · rw [if_pos hal]
          refine ⟨rfl, ?_⟩
          rw [wp_sortSet (by omega)]
          have hj : (((srt t).map fun c => [c]).map List.length).sum + ((srt t).map fun c => [c]).length * ([] : Txt).length ≤ 16777216 := by
            rw [sum_len]
            have := srt_len t
            simp
            omega
          rw [wp_joinL get_new hj, join_signs]
          have sh : ∀ y : Txt, (∀ c ∈ y, c < 0x110000) → SeqAt.shaped (.str ⟨y.toArray⟩) = true := fun y hy => by
            simp [SeqAt.shaped, PyData.canLay0, PyData.depth, PyData.strOk]
            exact hy
          have hs2 : ∀ c ∈ srt t, c < 0x110000 := fun c hc => hs c (srt_mem hc)
          simp only [asData]
          refine ⟨⟨sh t hs, sh _ hs2⟩, ?_⟩
          rw [eqv_s]
          have e : isA t = (t == srt t) := by unfold isA; rw [hal, decide_eq_true h1, decide_eq_true h3]; rfl
          rw [← e]
          exact hq _ fun j o g => get_old (get_old g)
        · rw [if_neg hal]
          have e : isA t = false := by unfold isA; rw [Bool.eq_false_iff.mpr hal]; simp
          rw [← e]
          exact hq _ fun j o g => get_old g
    · have h1' : (1 : Int) ≤ t.length := by omega
      have h3' : ¬ (t.length : Int) ≤ 3 := by omega
      have e : isA t = false := by unfold isA; simp [h3]
      rw [e] at self
      simp [f_is_alphabet, isKind, typeNm, lo, h1, h3, h1', h3', self]
  · have h1' : ¬ (1 : Int) ≤ t.length := by omega
    have e : isA t = false := by unfold isA; simp; omega
    rw [e] at self
    simp [f_is_alphabet, isKind, typeNm, lo, h1, h1', self]
theorem alpha_o {w : W} {n : String} (h : typeNm L w = some n) (hn : (n == "str") = false) (hq : Q (.bl false) L) : wp (runD C f_is_alphabet [w]) L Q E := by
  refine wp_runD (by simp [f_is_alphabet]) ?_
  have hn2 : n ≠ "str" := fun e => by rw [e] at hn; cases hn
  simp [f_is_alphabet, isKind, h, hn2, hq]
/-! ### what is due -/
def isl (t : Txt) : Bool := Txt.islower ⟨t.toArray⟩
def ial (t : Txt) : Bool := Txt.isalpha ⟨t.toArray⟩
def dueB (t : Txt) : Bool := decide (1 ≤ t.length) && decide (t.length ≤ 3) && isl t && ial t && (t == srt t)
theorem mapM_sgn {f : W → Option PyData} (hf : ∀ x : Txt, f (.str x) = some (.str ⟨x.toArray⟩)) : ∀ t : Txt, ((t.map fun c => [c]).map W.str).mapM f = some (t.map fun c => PyData.str ⟨[c].toArray⟩)
  | [] => rfl
  | c :: t => by
    rw [List.map_cons, List.map_cons, List.mapM_cons, mapM_sgn hf t, hf]
    rfl
theorem asData_sgn {a : Nat} {t : Txt} (h : L[a]? = some (.lst ((t.map fun c => [c]).map W.str))) : asData L 64 (.ref a) = some (.list (t.map fun c => PyData.str ⟨[c].toArray⟩)) := by
  show (match L[a]? with
    | some (.lst ws) => (ws.mapM (asData L 63)).map PyData.list
    | some (.ro ws) => (ws.mapM (asData L 63)).map PyData.list
    | _ => none) = _
  rw [h]
  dsimp only
  rw [mapM_sgn (fun _ => rfl) t]
  rfl
theorem eqv_sgn : ∀ a b : Txt, PyData.eqv (.list (a.map fun c => PyData.str ⟨[c].toArray⟩)) (.list (b.map fun c => PyData.str ⟨[c].toArray⟩)) = (a == b)
  | [], [] => rfl
  | [], _ :: _ => rfl
  | _ :: _, [] => rfl
  | a :: as, b :: bs => by
    have ih := eqv_sgn as bs
    simp only [PyData.eqv] at ih ⊢
    simp only [List.map_cons, PyData.eqvAll, ih]
    rw [eqv_s [a] [b]]
    by_cases h : a = b
    · subst h; simp
    · have h2 : (a == b) = false := by simpa using h
      simp [h2]
theorem shaped_sgn {t : Txt} (hs : ∀ c ∈ t, c < 0x110000) : SeqAt.shaped (.list (t.map fun c => PyData.str ⟨[c].toArray⟩)) = true := by
  have k1 : ∀ t : Txt, (∀ c ∈ t, c < 0x110000) → PyData.canLayAll0 (t.map fun c => PyData.str ⟨[c].toArray⟩) = true := fun t => by
    induction t with
    | nil => intro _; rfl
    | cons c t ih =>
      intro h
      rw [List.map_cons]
      simp only [PyData.canLayAll0, Bool.and_eq_true]
      refine ⟨?_, ih fun d hd => h d (by simp [hd])⟩
      have := h c (by simp)
      simp [PyData.canLay0, PyData.strOk]
      exact this
  have k2 : ∀ t : Txt, PyData.depthAll (t.map fun c => PyData.str ⟨[c].toArray⟩) = 0 := fun t => by
    induction t with
    | nil => rfl
    | cons c t ih => rw [List.map_cons]; simp [PyData.depthAll, PyData.depth, ih]
  simp only [SeqAt.shaped, PyData.canLay0, PyData.depth, k1 t hs, k2]
  rfl
theorem due_x {ρ : Fr} {t : Txt} (hv : ρ[8]? = some (some (.str t))) (hs : ∀ c ∈ t, c < 0x110000) (hz : t.length < 1000) (hq : ∀ L' : Hh, (∀ (j : Nat) (o : O), L[j]? = some o → L'[j]? = some o) → Q (.bl (dueB t)) L') :
    wp (evE C ρ (.band [(.chn .le .le (.ki 1) (.bi .len [(.var 8)]) (.ki 3)), (.met .islower (.var 8) []), (.met .isalpha (.var 8) []), (.cmp .eq (.bi .listf [(.var 8)]) (.srtset (.var 8)))])) L Q E := by
  have lo : lenOk t.length = true := by unfold lenOk; rw [decide_eq_true_eq, sizeLine_eq]; omega
  have self : Q (.bl (dueB t)) L := hq L fun _ _ e => e
  have m1 : ∀ (Q : W → Hh → Prop), wp (callM .islower (.str t) []) L Q E = Q (.bl (isl t)) L := fun Q => rfl
  have m2 : ∀ (Q : W → Hh → Prop), wp (callM .isalpha (.str t) []) L Q E = Q (.bl (ial t)) L := fun Q => rfl
  have r1 : rcvOk L .islower (.str t) = true := rfl
  have r2 : rcvOk L .isalpha (.str t) = true := rfl
  have li : ∀ (Q : W → Hh → Prop), wp (callB .listf [.str t]) L Q E = Q (.ref L.length) (L ++ [.lst ((t.map fun c => [c]).map W.str)]) := fun Q => by
    show wp (if lenOk t.length then alloc (.lst (signs t)) else fail) L Q E = _
    rw [if_pos lo]
    have e : signs t = (t.map fun c => [c]).map W.str := by rw [List.map_map]; rfl
    rw [e]
    rfl
  simp only [wp_band, wp_and2, wp_and1, wp_chn, wp_ki, wp_bi, wp_es_cons, wp_es_nil, wp_var, hv, wp_lenS, lo, if_true, wp_le, wp_met, r1, r2, m1, m2, wp_cmp, li, wp_srtset]
  by_cases h1 : 1 ≤ t.length
  · by_cases h3 : t.length ≤ 3
    · have h1' : (1 : Int) ≤ t.length := by omega
      have h3' : (t.length : Int) ≤ 3 := by omega
      simp only [h1', h3', decide_true, if_true]
      cases e1 : isl t with
      | false =>
        have e : dueB t = false := by unfold dueB; rw [e1]; simp
        rw [e] at self
        simp [self]
      | true =>
        cases e2 : ial t with
        | false =>
          have e : dueB t = false := by unfold dueB; rw [e2]; simp
          rw [e] at self
          simp [self]
        | true =>
          simp only [if_true]
          rw [wp_sortSet (by omega), wp_eq]
          have g1 : (L ++ [O.lst ((t.map fun c => [c]).map W.str)] ++ [O.lst (((srt t).map fun c => [c]).map W.str)])[L.length]? = some (.lst ((t.map fun c => [c]).map W.str)) := get_old get_new
          have g2 : (L ++ [O.lst ((t.map fun c => [c]).map W.str)] ++ [O.lst (((srt t).map fun c => [c]).map W.str)])[(L ++ [O.lst ((t.map fun c => [c]).map W.str)]).length]? = some (.lst (((srt t).map fun c => [c]).map W.str)) := get_new
          rw [asData_sgn g1, asData_sgn g2]
          dsimp only
          rw [shaped_sgn hs, shaped_sgn (fun c hc => hs c (srt_mem hc)), if_pos (show (true && true) = true from rfl)]
          have e : dueB t = (t == srt t) := by unfold dueB; rw [e1, e2, decide_eq_true h1, decide_eq_true h3]; rfl
          have z := hq _ fun j o g => get_old (o' := .lst (((srt t).map fun c => [c]).map W.str)) (get_old (o' := .lst ((t.map fun c => [c]).map W.str)) g)
          rw [e, ← eqv_sgn] at z
          exact z
    · have h1' : (1 : Int) ≤ t.length := by omega
      have h3' : ¬ (t.length : Int) ≤ 3 := by omega
      have e : dueB t = false := by unfold dueB; simp [h3]
      rw [e] at self
      simp [h1', h3', self]
  · have h1' : ¬ (1 : Int) ≤ t.length := by omega
    have e : dueB t = false := by unfold dueB; simp; omega
    rw [e] at self
    simp [h1', self]
def dom : List Nat := [97, 98, 99, 109, 121, 122, 65, 49, 32, 95, 126]
theorem dom_ok : ∀ c ∈ dom, PySem.Unicode.isAlpha c = (decide (c ∈ small) || c == 65) ∧ PySem.Unicode.isLower c = decide (c ∈ small) ∧ (PySem.Unicode.isUpper c || PySem.Unicode.isTitle c) = (c == 65) ∧ c < 0x110000 := by decide +kernel
theorem isA_due {t : Txt} (h : ∀ c ∈ t, c ∈ dom) : dueB t = isA t := by
  unfold dueB isA
  by_cases h1 : 1 ≤ t.length
  · have key : (isl t && ial t) = t.all fun c => decide (c ∈ small) := by
      rw [Bool.eq_iff_iff]
      simp only [isl, ial, Txt.islower, Txt.isalpha, Bool.and_eq_true, Bool.not_eq_true', List.any_toArray, List.all_toArray, List.all_eq_true, decide_eq_true_eq, List.any_eq_true, List.any_eq_false]
      constructor
      · rintro ⟨⟨_, h3⟩, _, h5⟩ c hc
        obtain ⟨k1, _, k3, _⟩ := dom_ok c (h c hc)
        have a := h5 c hc
        have b := h3 c hc
        rw [k1] at a
        rw [k3] at b
        simp at a b
        rcases a with a | a
        · simpa using a
        · exact absurd a b
      · intro hall
        have ex : ∃ c, c ∈ t := by
          cases t with
          | nil => simp at h1
          | cons c t => exact ⟨c, by simp⟩
        obtain ⟨c0, hc0⟩ := ex
        refine ⟨⟨⟨c0, hc0, ?_⟩, fun c hc => ?_⟩, ?_, fun c hc => ?_⟩
        · rw [(dom_ok c0 (h c0 hc0)).2.1]; exact decide_eq_true (hall c0 hc0)
        · rw [(dom_ok c (h c hc)).2.2.1]
          intro z
          have z : c = 65 := by simpa using z
          have := hall c hc
          rw [z] at this
          revert this
          decide
        · show 0 < (t.toArray).size
          rw [List.size_toArray]
          omega
        · rw [(dom_ok c (h c hc)).1, decide_eq_true (hall c hc)]; rfl
    have e : ∀ a b c d e : Bool, (a && b && c && d && e) = (a && b && (c && d) && e) := by decide
    rw [e, key]
  · rw [decide_eq_false h1]
    simp
/-! ### the law -/
theorem wp_seq {x : Sm} {xs : List Sm} {ρ : Fr} {Q : Fl × Fr → Hh → Prop} (P : Fl × Fr → Hh → Prop) (h1 : wp (exS C x ρ) L P E) (h2 : ∀ r L', P r L' → thenS C xs Q E r L') : wp (exSs C (x :: xs) ρ) L Q E := by
  rw [wp_ss_cons]
  exact wp_mono h1 h2 fun _ _ z => z
abbrev lets : Txt := [97, 98, 99, 109, 121, 122]
def S1 : Sm := .asg (.nm 3) (.met .join (.ks []) [(.lc [(("_law_k" : PySem.Str), 4)] (.nm 4) (.rng [(.call 1 [(.var 1), (.ki 5)] [])]) [] (.call 2 [(.var 1), (.ks [97, 98, 99, 109, 121, 122])] []))])
def S2 : Sm := .ifs (.bv (.cmp .eq (.call 1 [(.var 1), (.ki 2)] []) (.ki 0))) [
      .asg (.nm 3) (.met .join (.ks []) [(.bi .sortedf [(.var 3)])])] []
def S3 : Sm := .asg (.nm 5) (.bin .add (.var 3) (.call 2 [(.var 1), (.lst [(.ks []), (.ks []), (.ks [65]), (.ks [49]), (.ks [32]), (.ks [95]), (.ks [126])])] []))
def S4 : Sm := .asg (.nm 6) (.call 2 [(.var 1), (.lst [.kn, (.ki 3), (.kb true), (.tup [(.ks [97])]), (.lst [(.ks [97]), (.ks [98])]), (.tup [])])] [])
def X5 : Ex := .band [(.chn .le .le (.ki 1) (.bi .len [(.var 8)]) (.ki 3)), (.met .islower (.var 8) []), (.met .isalpha (.var 8) []), (.cmp .eq (.bi .listf [(.var 8)]) (.srtset (.var 8)))]
def S5 : Sm := .asg (.nm 7) (.lc [(("_law_token" : PySem.Str), 8)] (.nm 8) (.e (.lst [(.var 3), (.var 5)])) [] X5)
def S6 : Sm := .ifs (.nt (.val (.call 3 [(.lst [(.call 4 [(.var 3)] []), (.call 4 [(.var 5)] []), (.call 5 [] [(.var 6)])]), (.bin .add (.var 7) (.lst [(.kb false)]))] []))) [
      .rtn (.kb false)] []
def S7 : Sm := .rtn (.call 3 [(.lst [(.call 4 [(.ks [97, 98, 99])] []), (.call 4 [(.ks [97, 98, 99, 100])] []), (.call 4 [(.ks [])] []), (.call 4 [(.ks [98, 97])] []), (.call 4 [(.ks [122])] [])]), (.lst [(.kb true), (.kb false), (.kb false), (.kb false), (.kb true)])] [])
theorem law_is : f_law = ⟨9, [.asg (.nm 1) (.call 0 [(.var 0)] []), .fors (.nm 2) (.rng [(.ki 12)]) [S1, S2, S3, S4, S5, S6], S7]⟩ := rfl
abbrev Lets (x : Txt) : Prop := ∀ s ∈ x, s ∈ lets
theorem s1_ok {d l c : Nat} {is : List Int} {a0 a2 a3 a4 a5 a6 a7 a8 : Option W} (h : HandAt L l c is) :
    wp (exS (Cd (d + 2)) S1 [a0, some (.ref l), a2, a3, a4, a5, a6, a7, a8]) L (fun r L' => ∃ x : Txt, r = (.nx, [a0, some (.ref l), a2, some (.str x), a4, a5, a6, a7, a8]) ∧ HandAt L' l c is ∧ Lets x ∧ x.length ≤ 4) E := by
  have sm : ∀ r : Int, 0 ≤ r → r < 5 → smallR r = true := fun r h1 h2 => by simp [smallR]; omega
  simp [S1, c_pick, arrW, rcvOk]
  refine pick_ok h (by omega) (by omega) fun r L1 r0 r1 h1 _ => ?_
  dsimp only
  refine ⟨sm r r0 r1, ?_⟩
  have szl : (1000 : Nat) < sizeLine := by rw [sizeLine_eq]; omega
  refine loopC_inv (n := r.toNat) (fun i acc L' => HandAt L' l c is ∧ ∃ x : Txt, x.length = i ∧ Lets x ∧ acc = (x.map fun c => [c]).map W.str) (fun i acc L' hi ⟨g1, x, g2, g3, g4⟩ => ?_) (fun acc L' ⟨g1, x, g2, g3, g4⟩ => ?_) _ 0 [] _ (lt_fuel (by omega)) (Nat.zero_le _) ⟨h1, [], rfl, fun _ z => (by cases z), rfl⟩
  · refine ⟨.int i, by simp [srcAt]; omega, ?_⟩
    simp [wp_turnC, wipeF, c_of, arrW]
    refine of_txt (c_pick d) g1 (by decide) (by decide) fun s L2 hs g5 _ => ?_
    subst g4
    refine ⟨by simp; omega, g5, x ++ [s], by simp [g2], ?_, by simp⟩
    intro z hz
    rcases List.mem_append.mp hz with q | q
    · exact g3 z q
    · rw [List.mem_singleton.mp q]; exact hs
  · subst g4
    refine ⟨by simp [srcAt], ?_⟩
    have hj : ((x.map fun c => [c]).map List.length).sum + (x.map fun c => [c]).length * ([] : Txt).length ≤ 16777216 := by
      rw [sum_len]
      simp
      omega
    rw [wp_joinL get_new hj, join_signs]
    exact ⟨x, rfl, g1.same fun j o g => get_old g, g3, by omega⟩
theorem s2_ok {d l c : Nat} {is : List Int} {a0 a2 a4 a5 a6 a7 a8 : Option W} {x : Txt} (h : HandAt L l c is) (hx : Lets x) (hz : x.length ≤ 4) :
    wp (exS (Cd (d + 2)) S2 [a0, some (.ref l), a2, some (.str x), a4, a5, a6, a7, a8]) L (fun r L' => ∃ x : Txt, r = (.nx, [a0, some (.ref l), a2, some (.str x), a4, a5, a6, a7, a8]) ∧ HandAt L' l c is ∧ Lets x ∧ x.length ≤ 4) E := by
  have s0 : ∀ i : Int, SeqAt.shaped (.int i) = true := fun i => by simp [SeqAt.shaped, PyData.canLay0, PyData.depth]
  have lo : lenOk x.length = true := by unfold lenOk; rw [decide_eq_true_eq, sizeLine_eq]; omega
  simp [S2, c_pick, arrW]
  refine pick_ok h (by omega) (by omega) fun r L1 r0 r1 h1 _ => ?_
  simp [asData, s0]
  split
  · have so : ∀ (Q : W → Hh → Prop) (E : W → Hh → Prop), wp (callB .sortedf [.str x]) L1 Q E = Q (.ref L1.length) (L1 ++ [.lst ((sortT (x.map fun c => [c])).map .str)]) := fun Q E => by
      show wp (if lenOk x.length = true then alloc (.lst ((sortT (x.map fun c => [c])).map .str)) else fail) L1 Q E = _
      rw [if_pos lo]
      rfl
    rw [so]
    obtain ⟨ds, p, e⟩ := sort_signs x
    have hl := p.length_eq
    rw [e]
    have hj : ((ds.map fun c => [c]).map List.length).sum + (ds.map fun c => [c]).length * ([] : Txt).length ≤ 16777216 := by
      rw [sum_len]
      simp
      omega
    refine ⟨rfl, ?_⟩
    rw [wp_joinL get_new hj, join_signs]
    exact ⟨ds, rfl, h1.same fun j o g => get_old g, fun s hs => hx s (p.mem_iff.mp hs), by omega⟩
  · exact ⟨h1, hx, hz⟩
abbrev InDom (x : Txt) : Prop := (∀ s ∈ x, s ∈ dom) ∧ x.length ≤ 5
theorem dom_lt {x : Txt} (h : ∀ s ∈ x, s ∈ dom) : ∀ c ∈ x, c < 0x110000 := fun c hc => (dom_ok c (h c hc)).2.2.2
theorem lets_dom {x : Txt} (h : Lets x) : ∀ s ∈ x, s ∈ dom := fun s hs => by
  have k : ∀ s ∈ lets, s ∈ dom := by decide
  exact k s (h s hs)
theorem s3_ok {d l c : Nat} {is : List Int} {a0 a2 a4 a5 a6 a7 a8 : Option W} {x : Txt} (h : HandAt L l c is) (hx : Lets x) (hz : x.length ≤ 4) :
    wp (exS (Cd (d + 2)) S3 [a0, some (.ref l), a2, some (.str x), a4, a5, a6, a7, a8]) L (fun r L' => ∃ y : Txt, r = (.nx, [a0, some (.ref l), a2, some (.str x), a4, some (.str y), a6, a7, a8]) ∧ HandAt L' l c is ∧ InDom y) E := by
  have lo7 : lenOk 7 = true := by decide
  simp [S3, c_of, arrW, lo7]
  have ll := lt_of_get (show L[l]? = some _ from h.hd.choose_spec.choose_spec.choose_spec.1)
  refine of_lst (c_pick d) (h.same fun j o g => get_old g) get_new (by omega) (by simp) (by simp) fun w L1 hw h1 _ => ?_
  have : ∃ z : Txt, w = .str z ∧ (∀ s ∈ z, s ∈ dom) ∧ z.length ≤ 1 := by
    simp at hw
    rcases hw with rfl | rfl | rfl | rfl | rfl | rfl
    · exact ⟨_, rfl, by decide, by decide⟩
    · exact ⟨_, rfl, by decide, by decide⟩
    · exact ⟨_, rfl, by decide, by decide⟩
    · exact ⟨_, rfl, by decide, by decide⟩
    · exact ⟨_, rfl, by decide, by decide⟩
    · exact ⟨_, rfl, by decide, by decide⟩
  obtain ⟨z, rfl, hz1, hz2⟩ := this
  have lo : lenOk (x.length + z.length) = true := by unfold lenOk; rw [decide_eq_true_eq, sizeLine_eq]; omega
  rw [wp_addS, if_pos lo]
  refine ⟨x ++ z, rfl, h1, fun s hs => ?_, by simp; omega⟩
  rcases List.mem_append.mp hs with q | q
  · exact lets_dom hx s q
  · exact hz1 s q
/-- a value that is no text -/
def Odd (L : Hh) (w : W) : Prop := ∃ n, typeNm L w = some n ∧ (n == "str") = false
theorem Odd.keep {L L' : Hh} {w : W} (h : Odd L w) (k : ∀ (j : Nat) (o : O), L[j]? = some o → L'[j]? = some o) : Odd L' w := by
  obtain ⟨n, h1, h2⟩ := h
  refine ⟨n, ?_, h2⟩
  cases w <;> try exact h1
  rename_i l
  have h1 : (match L[l]? with
    | some (.lst _) => some "list"
    | some (.ro _) => some "list"
    | some (.dct _) => some "dict"
    | _ => none) = some n := h1
  show (match L'[l]? with
    | some (.lst _) => some "list"
    | some (.ro _) => some "list"
    | some (.dct _) => some "dict"
    | _ => none) = some n
  cases e : L[l]? with
  | none => rw [e] at h1; cases h1
  | some o => rw [k l o e]; rw [e] at h1; exact h1
theorem s4_ok {d l c : Nat} {is : List Int} {a0 a2 a3 a4 a5 a6 a7 a8 : Option W} (h : HandAt L l c is) :
    wp (exS (Cd (d + 2)) S4 [a0, some (.ref l), a2, a3, a4, a5, a6, a7, a8]) L (fun r L' => ∃ w : W, r = (.nx, [a0, some (.ref l), a2, a3, a4, a5, some w, a7, a8]) ∧ HandAt L' l c is ∧ Odd L' w) E := by
  have lo1 : lenOk 1 = true := by decide
  have lo0 : lenOk 0 = true := by decide
  have lo2 : lenOk 2 = true := by decide
  have lo6 : lenOk 6 = true := by decide
  simp [S4, c_of, arrW, lo1, lo0, lo2, lo6]
  have ll := lt_of_get (show L[l]? = some _ from h.hd.choose_spec.choose_spec.choose_spec.1)
  have g0 : (L ++ [O.lst [W.str [97], W.str [98]], O.lst [W.non, W.int 3, W.bl true, W.tup [W.str [97]], W.ref (List.length L), W.tup []]])[L.length + 1]? = some (.lst [W.non, W.int 3, W.bl true, W.tup [W.str [97]], W.ref (List.length L), W.tup []]) := by
    rw [List.getElem?_append_right (by simp)]
    simp
  have g1 : (L ++ [O.lst [W.str [97], W.str [98]], O.lst [W.non, W.int 3, W.bl true, W.tup [W.str [97]], W.ref (List.length L), W.tup []]])[L.length]? = some (.lst [W.str [97], W.str [98]]) := by
    rw [List.getElem?_append_right (by simp)]
    simp
  refine of_lst (c_pick d) (h.same fun j o g => ?_) g0 (by omega) (by simp) (by simp) fun w L1 hw h1 sm => ?_
  · rw [List.getElem?_append_left (lt_of_get g)]; exact g
  · refine ⟨h1, ?_⟩
    have g2 := sm.keep g1 (by omega)
    simp at hw
    rcases hw with rfl | rfl | rfl | rfl | rfl | rfl
    · exact ⟨_, rfl, by decide⟩
    · exact ⟨_, rfl, by decide⟩
    · exact ⟨_, rfl, by decide⟩
    · exact ⟨_, rfl, by decide⟩
    · exact ⟨"list", by simp [typeNm, g2], by decide⟩
    · exact ⟨_, rfl, by decide⟩
theorem s5_ok {C : Dx.Env} {l c : Nat} {is : List Int} {a0 a2 a4 a7 a8 : Option W} {x y : Txt} {w : W} (h : HandAt L l c is) (hx : InDom x) (hy : InDom y) (ho : Odd L w) :
    wp (exS C S5 [a0, some (.ref l), a2, some (.str x), a4, some (.str y), some w, a7, a8]) L (fun r L' => ∃ p : Nat, r = (.nx, [a0, some (.ref l), a2, some (.str x), a4, some (.str y), some w, some (.ref p), a8]) ∧ HandAt L' l c is ∧ Odd L' w ∧ L'[p]? = some (.lst ([dueB x, dueB y].map W.bl))) E := by
  have lo2 : lenOk 2 = true := by decide
  have szl : (1000 : Nat) < sizeLine := by rw [sizeLine_eq]; omega
  have g0 : (L ++ [O.lst [W.str x, W.str y]])[L.length]? = some (.lst [W.str x, W.str y]) := get_new
  simp [S5, lo2, itemsOf_lst g0]
  refine loopC_inv (n := 2) (fun i acc L' => (∀ (j : Nat) (o : O), (L ++ [O.lst [W.str x, W.str y]])[j]? = some o → L'[j]? = some o) ∧ acc = ([dueB x, dueB y].take i).map W.bl) (fun i acc L' hi ⟨k, e⟩ => ?_) (fun acc L' ⟨k, e⟩ => ?_) _ 0 [] _ (lt_fuel (by omega)) (by omega) ⟨fun _ _ g => g, rfl⟩
  · subst e
    rcases i with _ | _ | i
    · refine ⟨.str x, by rw [srcAt_seq (k _ _ g0)]; rfl, ?_⟩
      rw [wp_turnC]
      simp only [wipeF, List.map_cons, List.map_nil, wp_gnm, wp_ta_nil, if_true, List.set_cons_succ, List.set_cons_zero]
      refine due_x (by rfl) (dom_lt hx.1) (by have := hx.2; omega) fun L2 k2 => ?_
      exact ⟨by show 0 < sizeLine; omega, fun j o g => k2 j o (k j o g), rfl⟩
    · refine ⟨.str y, by rw [srcAt_seq (k _ _ g0)]; rfl, ?_⟩
      rw [wp_turnC]
      simp only [wipeF, List.map_cons, List.map_nil, wp_gnm, wp_ta_nil, if_true, List.set_cons_succ, List.set_cons_zero]
      refine due_x (by rfl) (dom_lt hy.1) (by have := hy.2; omega) fun L2 k2 => ?_
      exact ⟨by show 1 < sizeLine; omega, fun j o g => k2 j o (k j o g), rfl⟩
    · omega
  · subst e
    refine ⟨by rw [srcAt_seq (k _ _ g0)]; rfl, ?_⟩
    exact ⟨h.same fun j o g => get_old (k j o (get_old g)), ho.keep fun j o g => get_old (k j o (get_old g)), rfl⟩
theorem zip_self : ∀ bs : List Bool, ((bs.zip bs).all fun p => p.1 == p.2) = true
  | [] => rfl
  | b :: bs => by rw [List.zip_cons_cons, List.all_cons, zip_self bs]; simp
theorem s6_ok {d l c p : Nat} {is : List Int} {a0 a2 a4 a8 : Option W} {x y : Txt} {w : W} (h : HandAt L l c is) (hx : InDom x) (hy : InDom y) (ho : Odd L w) (hp : L[p]? = some (.lst ([dueB x, dueB y].map W.bl))) :
    wp (exS (Cd (d + 3)) S6 [a0, some (.ref l), a2, some (.str x), a4, some (.str y), some w, some (.ref p), a8]) L (fun r L' => r = (.nx, [a0, some (.ref l), a2, some (.str x), a4, some (.str y), some w, some (.ref p), a8]) ∧ HandAt L' l c is) E := by
  have lo1 : lenOk 1 = true := by decide
  have lo3 : lenOk 3 = true := by decide
  have z1 : x.length < 1000 := by have := hx.2; omega
  have z2 : y.length < 1000 := by have := hy.2; omega
  simp [S6, c_alpha, arrW]
  refine alpha_s (dom_lt hx.1) z1 fun L1 k1 => ?_
  refine alpha_s (dom_lt hy.1) z2 fun L2 k2 => ?_
  simp [c_alphaK, arrW]
  obtain ⟨n, o1, o2⟩ := (ho.keep k1).keep k2
  refine alpha_o o1 o2 ?_
  simp only [lo3, lo1, if_true]
  have q1 := k2 _ _ (k1 _ _ hp)
  have q2 : (L2 ++ [O.lst [W.bl (isA x), W.bl (isA y), W.bl false], O.lst [W.bl false]])[p]? = some (.lst ([dueB x, dueB y].map W.bl)) := by
    rw [List.getElem?_append_left (lt_of_get q1)]; exact q1
  refine ⟨trivial, trivial, ?_⟩
  rw [q2]
  dsimp only
  refine ⟨by show lenOk 3 = true; decide, ?_⟩
  show wp (runD (Cd (d + 2)) f_law_same [W.ref L2.length, W.ref (L2.length + 1 + 1)]) _ _ _
  refine same_l (d := d + 1) (as := [isA x, isA y, false]) (bs := [dueB x, dueB y, false]) ?_ ?_ rfl (by simp) fun L3 k3 => ?_
  · rw [List.getElem?_append_right (Nat.le_refl _)]; simp
  · rw [List.getElem?_append_right (by omega)]
    have e : L2.length + 1 + 1 - L2.length = 2 := by omega
    rw [e]
    rfl
  · rw [isA_due hx.1, isA_due hy.1, zip_self]
    refine ⟨rfl, ((h.same k1).same k2).same fun j o g => k3 j o ?_⟩
    rw [List.getElem?_append_left (lt_of_get g)]
    exact g
theorem isA_at : isA [97, 98, 99] = true ∧ isA [97, 98, 99, 100] = false ∧ isA [] = false ∧ isA [98, 97] = false ∧ isA [122] = true := by decide +kernel
theorem s7_ok {d : Nat} {ρ : Fr} : wp (exS (Cd (d + 3)) S7 ρ) L (fun r _ => ∃ ρ', r = (.rt (.bl true), ρ')) E := by
  have lo5 : lenOk 5 = true := by decide
  obtain ⟨b1, b2, b3, b4, b5⟩ := isA_at
  simp [S7, c_alpha, arrW]
  refine alpha_s (by decide) (by decide) fun L1 k1 => ?_
  refine alpha_s (by decide) (by decide) fun L2 k2 => ?_
  refine alpha_s (by decide) (by decide) fun L3 k3 => ?_
  refine alpha_s (by decide) (by decide) fun L4 k4 => ?_
  refine alpha_s (by decide) (by decide) fun L5 k5 => ?_
  rw [b1, b2, b3, b4, b5]
  simp only [lo5]
  refine ⟨trivial, ?_⟩
  show wp (runD (Cd (d + 2)) f_law_same [W.ref L5.length, W.ref (L5.length + 1)]) _ _ _
  refine same_l (d := d + 1) (as := [true, false, false, false, true]) (bs := [true, false, false, false, true]) ?_ ?_ rfl (by simp) fun L6 k6 => ?_
  · rw [List.getElem?_append_right (Nat.le_refl _)]; simp
  · rw [List.getElem?_append_right (by omega)]
    have e : L5.length + 1 - L5.length = 1 := by omega
    rw [e]
    rfl
  · rfl
theorem turn_ok {d l c : Nat} {is : List Int} {a0 a2 a3 a4 a5 a6 a7 a8 : Option W} (h : HandAt L l c is) :
    wp (exSs (Cd (d + 3)) [S1, S2, S3, S4, S5, S6] [a0, some (.ref l), a2, a3, a4, a5, a6, a7, a8]) L (fun r L' => ∃ b2 b3 b4 b5 b6 b7 b8 : Option W, r = (.nx, [a0, some (.ref l), b2, b3, b4, b5, b6, b7, b8]) ∧ HandAt L' l c is) E := by
  refine wp_seq _ (s1_ok (d := d + 1) h) fun r L1 ⟨x, er, h1, hx, hz⟩ => ?_
  subst er
  rw [thenS_nx]
  refine wp_seq _ (s2_ok (d := d + 1) h1 hx hz) fun r L2 ⟨x2, er, h2, hx2, hz2⟩ => ?_
  subst er
  rw [thenS_nx]
  refine wp_seq _ (s3_ok (d := d + 1) h2 hx2 hz2) fun r L3 ⟨y, er, h3, hy⟩ => ?_
  subst er
  rw [thenS_nx]
  refine wp_seq _ (s4_ok (d := d + 1) h3) fun r L4 ⟨w, er, h4, ho⟩ => ?_
  subst er
  rw [thenS_nx]
  have hxd : InDom x2 := ⟨lets_dom hx2, by omega⟩
  refine wp_seq _ (s5_ok h4 hxd hy ho) fun r L5 ⟨p, er, h5, ho5, hp⟩ => ?_
  subst er
  rw [thenS_nx]
  refine wp_seq _ (s6_ok (d := d) h5 hxd hy ho5 hp) fun r L6 ⟨er, h6⟩ => ?_
  subst er
  rw [thenS_nx, wp_ss_nil]
  exact ⟨_, _, _, _, _, _, _, rfl, h6⟩
theorem plain : Plain := by
  intro ns hn
  rw [law_is]
  refine wp_runD (by show 1 ≤ 9; omega) ?_
  show wp (exSs (Cd 40) _ [some (W.scr (ns.map W.int)), none, none, none, none, none, none, none, none]) [] _ _
  refine wp_seq (fun r L' => ∃ l c is, r = (.nx, [some (W.scr (ns.map W.int)), some (.ref l), none, none, none, none, none, none, none]) ∧ HandAt L' l c is) ?_ fun r L1 ⟨l, c, is, er, h⟩ => ?_
  · simp only [wp_asg, wp_call, wp_es_cons, wp_es_nil, wp_var, List.getElem?_cons_zero, List.append_nil, wp_gnm, List.set_cons_succ, List.set_cons_zero]
    show wp (runD (Cd 39) fHand [W.scr (ns.map W.int)]) _ _ _
    exact hand_ok fun l c is L' h _ => ⟨l, c, is, rfl, h⟩
  · subst er
    rw [thenS_nx]
    refine wp_seq (fun r L' => ∃ ρ', r = (.nx, ρ')) ?_ fun r L2 ⟨ρ', er⟩ => ?_
    · simp only [wp_fors, wp_irng, wp_es_cons, wp_es_nil, wp_ki]
      have s12 : smallR 12 = true := by decide
      rw [if_pos s12]
      refine loopF_inv (n := 12) (fun i ρ L' => (∃ b2 b3 b4 b5 b6 b7 b8 : Option W, ρ = [some (W.scr (ns.map W.int)), some (.ref l), b2, b3, b4, b5, b6, b7, b8]) ∧ HandAt L' l c is) (fun i ρ L' hi ⟨⟨b2, b3, b4, b5, b6, b7, b8, e⟩, g⟩ => ?_) (fun ρ L' _ => ?_) _ 0 _ _ (lt_fuel (by omega)) (by omega) ⟨⟨_, _, _, _, _, _, _, rfl⟩, h⟩
      · subst e
        refine ⟨.int i, by simp [srcAt, hi], ?_⟩
        rw [wp_gnm]
        refine wp_mono (turn_ok (d := 37) g) (fun r L2 ⟨c2, c3, c4, c5, c6, c7, c8, er, g2⟩ => ?_) fun _ _ z => z
        subst er
        exact ⟨⟨_, _, _, _, _, _, _, rfl⟩, g2⟩
      · exact ⟨by simp [srcAt], _, rfl⟩
    · subst er
      rw [thenS_nx]
      refine wp_seq _ (s7_ok (d := 37)) fun r L3 ⟨ρ2, er⟩ => ?_
      subst er
      rw [thenS_rt]
      rfl
theorem k01_holds : PySem.Challenge.rw_lastkept_k01_alphabets.Holds := holds_of plain
end
end Q

theorem PySem.Challenge.cw_lastkept_k01_alphabets_holds : PySem.Challenge.rw_lastkept_k01_alphabets.Holds :=
  Q.k01_holds
