import PyProof.Rows.All
import Wide.All
import OpenK.AllK
import Wide.FinOn
import HandS.ForMost
import HandS.List
import HandS.Exc
import HandS.ExcOwn
import HandS.Wide
import HandS.TupAny
import HandS.TupMul
import HandS.TupLe
import HandS.Style
import HandS.Deep
import HandS.Text
import KE.KEqDict
import HandS.Dict
import HandS.Iter
import HandS.CallSlots
import HandS.Property
import HandS.Star
import HandS.MakeKwOnly
import KE.KDictWalk
import HandS.Comp
import HandS.DictComp
import PyProof.DictFindH
import HandS.IsInst
import HandS.Conv
import HandS.TupLen
import KE.KDictCopyH
import PyProof.ListStr
import PyProof.Rows.TupDisplay
import HandS.WordsExc
import HandS.Words
import HandS.Zip
import HandS.HeadEnd
import HandS.HeadHook1
import HandS.HeadHook2
import HandS.HeadHook4
import HandS.Head0
import HandS.Head1
import HandS.Head2
import HandS.Codes
import HandS.Defaults
import HandS.TryOnly
import PySem.Challenge.RW_forbidmoves_k12_whole_needs
set_option Elab.async false
set_option linter.all false
set_option maxRecDepth 100000
/-! FbP -/
/-! FbP: values as trees, cells, a monad, and what each construct does (plain functions). -/
namespace Fb
open PySem
/-! ### trees -/
inductive D where
  | non | bl (b : Bool) | int (i : Int) | str (x : Str)
  | tup (l : List D) | lst (l : List D) | dic (t : Bool) (l : List (D × D)) | ins (c : Nat) (fs : List D)
  /-- the law's own list of ints -/
  | arr (l : List Int)
instance : Inhabited D := ⟨.non⟩
def atomEq : D → D → Bool
  | .int a, .int b => a == b
  | .str a, .str b => a == b
  | _, _ => false
def atomsEq : List D → List D → Bool
  | [], [] => true
  | a :: r, b :: t => atomEq a b && atomsEq r t
  | _, _ => false
def keyEq : D → D → Bool
  | .int a, .int b => a == b
  | .str a, .str b => a == b
  | .tup a, .tup b => atomsEq a b
  | _, _ => false
def look (k : D) : List (D × D) → Option D
  | [] => none
  | (j, v) :: r => if keyEq j k then some v else look k r
def put (k v : D) (l : List (D × D)) : List (D × D) := if (l.any fun p => keyEq p.1 k) = true then l.map (fun p => if keyEq p.1 k = true then (p.1, v) else p) else l ++ [(k, v)]
def drp (k : D) (l : List (D × D)) : List (D × D) := l.filter fun p => !keyEq p.1 k
def putAll (l : List (D × D)) : List (D × D) → List (D × D)
  | [] => l
  | (k, v) :: r => putAll (put k v l) r
mutual
def eqD : D → D → Bool
  | .non, .non => true
  | .bl a, .bl b => a == b
  | .bl a, .int i => (if a then 1 else 0) == i
  | .int i, .bl a => (if a then 1 else 0) == i
  | .int a, .int b => a == b
  | .str a, .str b => a == b
  | .tup a, .tup b => eqL a b
  | .lst a, .lst b => eqL a b
  | .dic _ a, .dic _ b => a.length == b.length && eqP a b
  | .ins c a, .ins c' b => c == c' && eqL a b
  | _, _ => false
def eqL : List D → List D → Bool
  | [], [] => true
  | a :: r, b :: t => eqD a b && eqL r t
  | _, _ => false
def eqP : List (D × D) → List (D × D) → Bool
  | [], _ => true
  | (k, v) :: r, l => (match look k l with | some v' => eqD v v' | none => false) && eqP r l
end
def strOk' (x : Str) : Bool := x.cps.all (· < 0x110000)
/-- data at most n deep: no dict, no instance -/
def isData : Nat → D → Bool
  | 0, _ => false
  | _ + 1, .non => true
  | _ + 1, .bl _ => true
  | _ + 1, .int _ => true
  | _ + 1, .str x => strOk' x
  | n + 1, .tup l => l.all (isData n)
  | n + 1, .lst l => l.all (isData n)
  | _ + 1, _ => false
def isFlat : D → Bool
  | .non => true
  | .bl _ => true
  | .int _ => true
  | .str _ => true
  | _ => false
/-- an atom of a key -/
def isAtom : D → Bool
  | .int _ => true
  | .str _ => true
  | _ => false
def isKeyT : D → Bool
  | .tup l => l.all isAtom && !l.isEmpty
  | _ => false
/-- a key of a dict of this kind -/
def isKey (t : Bool) (k : D) : Bool := if t then isKeyT k else isAtom k
/-- a dict of flat things by ints and texts -/
def isFlatDic : D → Bool
  | .dic false l => l.all fun p => isAtom p.1 && isFlat p.2
  | _ => false
/-- == of these two is told -/
def okQ (x y : D) : Bool := (isData 8 x && isData 8 y) || (isFlatDic x && isFlatDic y)
def inL (x : D) : List D → Bool
  | [] => false
  | y :: r => eqD y x || inL x r
/-! ### values, cells, the monad -/
inductive Val where
  | d (x : D) | cell (k : Nat)
instance : Inhabited Val := ⟨.d .non⟩
inductive Cel where
  | lst (l : List D) | dic (t : Bool) (l : List (D × D)) | ins (c : Nat) (fs : List (Nat × Val))
abbrev Sto := List (Option Cel)
structure Ex where
  c : Nat
  fs : List D
inductive Rs (α : Type) where
  | ok (a : α) (s : Sto) | exc (x : Ex) (s : Sto) | stuck
abbrev M (α : Type) := Sto → Rs α
def ret {α : Type} (a : α) : M α := fun s => .ok a s
def thr {α : Type} (x : Ex) : M α := fun s => .exc x s
def stk {α : Type} : M α := fun _ => .stuck
def bnd {α β : Type} (m : M α) (f : α → M β) : M β := fun s => match m s with
  | .ok a s' => f a s'
  | .exc x s' => .exc x s'
  | .stuck => .stuck
theorem bnd_ok {α β : Type} {m : M α} {f : α → M β} {s s' : Sto} {a : α} (h : m s = .ok a s') : bnd m f s = f a s' := by unfold bnd; rw [h]
theorem bnd_exc {α β : Type} {m : M α} {f : α → M β} {s s' : Sto} {x : Ex} (h : m s = .exc x s') : bnd m f s = .exc x s' := by unfold bnd; rw [h]
theorem bnd_stk {α β : Type} {m : M α} {f : α → M β} {s : Sto} (h : m s = .stuck) : bnd m f s = .stuck := by unfold bnd; rw [h]
theorem bnd_assoc {α β γ : Type} (m : M α) (f : α → M β) (g : β → M γ) : bnd (bnd m f) g = bnd m fun a => bnd (f a) g := by
  funext s
  unfold bnd
  cases m s <;> rfl
theorem bnd_ret {α β : Type} (a : α) (f : α → M β) : bnd (ret a) f = f a := rfl
abbrev DEnv := List (Option Val)
abbrev DE := DEnv → M Val
abbrev DT := DEnv → M Bool
abbrev DA := DEnv → M (List Val)
/-- a value as it stands now -/
def snap : Val → M D
  | .d x => ret x
  | .cell k => fun s => match s[k]? with
    | some (some (.lst l)) => .ok (.lst l) s
    | some (some (.dic t l)) => .ok (.dic t l) s
    | _ => .stuck
def plain : Val → M D
  | .d x => ret x
  | _ => stk
def plains : List Val → M (List D)
  | [] => ret []
  | v :: r => bnd (plain v) fun x => bnd (plains r) fun t => ret (x :: t)
/-- a cell becomes a tree; it is not written any more -/
def frz : Val → M Val
  | .d x => ret (.d x)
  | .cell k => fun s => match s[k]? with
    | some (some (.lst l)) => .ok (.d (.lst l)) (s.set k none)
    | some (some (.dic t l)) => .ok (.d (.dic t l)) (s.set k none)
    | _ => .stuck
def newCell (c : Cel) : M Val := fun s => .ok (.cell s.length) (s ++ [some c])
def setCell (k : Nat) (c : Cel) : M Val := fun s => .ok (.d .non) (s.set k (some c))
/-! ### expressions -/
def dVar (i : Nat) : DE := fun e s => match e[i]? with
  | some (some v) => .ok v s
  | _ => .stuck
def dCon (x : D) : DE := fun _ s => .ok (.d x) s
def dNil : DA := fun _ s => .ok [] s
def dCons (a : DE) (r : DA) : DA := fun e => bnd (a e) fun v => bnd (r e) fun t => ret (v :: t)
def seqOf : D → M (List D)
  | .lst l => ret l
  | .arr l => ret (l.map .int)
  | .tup l => ret l
  | _ => stk
def dStar (a : DE) (r : DA) : DA := fun e => bnd (a e) fun v => bnd (snap v) fun x => bnd (seqOf x) fun l => bnd (r e) fun t => ret (l.map .d ++ t)
def dFrz (a : DE) : DE := fun e => bnd (a e) frz
/-- a bound on what is displayed -/
def cap {α : Type} (n : Nat) (m : M α) : M α := if n < 1000000 then m else stk
def dTup (a : DA) : DE := fun e => bnd (a e) fun vs => bnd (plains vs) fun xs => cap xs.length (ret (.d (.tup xs)))
def dLst (a : DA) : DE := fun e => bnd (a e) fun vs => bnd (plains vs) fun xs => cap xs.length (ret (.d (.lst xs)))
def dLstL (a : DA) : DE := fun e => bnd (a e) fun vs => bnd (plains vs) fun xs => cap xs.length (newCell (.lst xs))
/-- an empty dict; t: its keys will be tuples -/
def dDic0 (t : Bool) : DE := fun _ => newCell (.dic t [])
/-- what a binary operator does with two trees -/
inductive Bop where | add | sub | mul | fdiv | mod
def binD : Bop → D → D → M D
  | .add, .int a, .int b => ret (.int (a + b))
  | .sub, .int a, .int b => ret (.int (a - b))
  | .mul, .int a, .int b => if (a.natAbs < 2 ^ 64 ∨ b.natAbs < 2 ^ 64) then ret (.int (a * b)) else stk
  | .fdiv, .int a, .int b => if 0 < b ∧ b.natAbs < 2 ^ 9000 then ret (.int (a / b)) else stk
  | .mod, .int a, .int b => if 0 < b then ret (.int (a % b)) else stk
  | .add, .str a, .str b => if a.length + b.length ≤ sizeLine then ret (.str (a ++ b)) else stk
  | .add, .lst a, .lst b => if a.length + b.length ≤ sizeLine then ret (.lst (a ++ b)) else stk
  | .add, .tup a, .tup b => if a.length + b.length ≤ sizeLine then ret (.tup (a ++ b)) else stk
  | .mul, .lst a, .int n => if -(2 ^ 63) ≤ n ∧ n < 2 ^ 63 ∧ a.length * n.toNat ≤ sizeLine then ret (.lst ((List.replicate n.toNat a).flatten)) else stk
  | .mul, .tup a, .int n => if 2 ≤ n ∧ n ≤ 1000 ∧ a.length ≤ 1000 ∧ a.length ≠ 0 then ret (.tup ((List.replicate n.toNat a).flatten)) else stk
  | _, _, _ => stk
def opD (k : D → D → M D) (v u : Val) : M Val := bnd (snap v) fun x => bnd (snap u) fun y => bnd (k x y) fun z => ret (.d z)
def dBin (op : Bop) (a b : DE) : DE := fun e => bnd (a e) fun v => bnd (b e) fun u => opD (binD op) v u
def dNeg (a : DE) : DE := fun e => bnd (a e) fun v => bnd (plain v) fun x => match x with
  | .int i => ret (.d (.int (-i)))
  | _ => stk
/-- comparisons -/
def isNonD : D → Bool
  | .non => true
  | _ => false
inductive Cop where | eq | ne | lt | le | gt | ge | inn | nin | isN | notN | isB | notB
/-- the lengths within which texts are searched -/
def inD (x : D) : D → M Bool
  | .lst l => if isData 8 x && l.all (isData 7) then ret (inL x l) else stk
  | .tup l => if isData 8 x && l.all (isData 7) then ret (inL x l) else stk
  | .dic t l => if isKey t x then ret (look x l).isSome else stk
  | .str z => match x with
    | .str y => if y.cps.size = 1 then ret (z.cps.toList.contains (y.cps.getD 0 0)) else stk
    | _ => stk
  | _ => stk
def cmpD : Cop → D → D → M Bool
  | .eq, x, y => if okQ x y then ret (eqD x y) else stk
  | .ne, x, y => if okQ x y then ret (!eqD x y) else stk
  | .lt, .int a, .int b => ret (decide (a < b))
  | .le, .int a, .int b => ret (decide (a ≤ b))
  | .gt, .int a, .int b => ret (decide (b < a))
  | .ge, .int a, .int b => ret (decide (b ≤ a))
  | .inn, x, y => inD x y
  | .nin, x, y => bnd (inD x y) fun b => ret (!b)
  | .isN, x, .non => ret (isNonD x)
  | .notN, x, .non => ret (!isNonD x)
  | .isB, .bl b, .bl c => ret (b == c)
  | .notB, .bl b, .bl c => ret (b != c)
  | _, _, _ => stk
def opB (k : D → D → M Bool) (v u : Val) : M Bool := bnd (snap v) fun x => bnd (snap u) fun y => k x y
def tCmp (op : Cop) (a b : DE) : DT := fun e => bnd (a e) fun v => bnd (b e) fun u => opB (cmpD op) v u
def tV (t : DT) : DE := fun e => bnd (t e) fun b => ret (.d (.bl b))
def asB : Val → M Bool
  | .d (.bl b) => ret b
  | _ => stk
/-- an expression's value as a test -/
def vT (a : DE) : DT := fun e => bnd (a e) asB
def tNot (t : DT) : DT := fun e => bnd (t e) fun b => ret (!b)
def tAnd (t u : DT) : DT := fun e => bnd (t e) fun b => if b then u e else ret false
def tOr (t u : DT) : DT := fun e => bnd (t e) fun b => if b then ret true else u e
def dIf (t : DT) (a b : DE) : DE := fun e => bnd (t e) fun c => if c then a e else b e
/-- a op b op' c -/
def tChain (op op' : Cop) (a b c : DE) : DT := fun e => bnd (a e) fun v => bnd (b e) fun u => bnd (opB (cmpD op) v u) fun r =>
  if r then bnd (c e) fun w => opB (cmpD op') u w else ret false
/-- an item by an index of any sign -/
def atD (l : List D) (i : Int) : Option D := L2.atI l i
def optM {α : Type} : Option α → M α
  | some a => ret a
  | none => stk
def ixD : D → D → M D
  | .lst l, .int i => optM (atD l i)
  | .tup l, .int i => optM (atD l i)
  | .arr l, .int i => optM (atD (l.map .int) i)
  | .dic t l, k => if isKey t k then optM (look k l) else stk
  | .str z, .int i => if z.length ≤ 1000000 then (match L2.atI z.cps.toList i with | some c => ret (.str ⟨#[c]⟩) | none => stk) else stk
  | _, _ => stk
def dIx (a b : DE) : DE := fun e => bnd (a e) fun v => bnd (b e) fun u => opD ixD v u
/-! ### slices, attributes -/
abbrev DO := DEnv → M (Option Int)
def oNone : DO := fun _ => ret none
def oSome (a : DE) : DO := fun e => bnd (a e) fun v => bnd (plain v) fun x => match x with
  | .int i => ret (some i)
  | _ => stk
def cut {α : Type} (l : List α) (lo hi : Option Int) : List α := (l.drop (HT.sIx l.length 0 lo)).take (HT.sIx l.length l.length hi - HT.sIx l.length 0 lo)
def slD (x : D) (lo hi : Option Int) : M D := match x with
  | .lst l => ret (.lst (cut l lo hi))
  | .tup l => ret (.tup (cut l lo hi))
  | .arr l => ret (.lst ((cut l lo hi).map .int))
  | _ => stk
def dSl2 (a : DE) (lo hi : DO) : DE := fun e => bnd (a e) fun v => bnd (lo e) fun l => bnd (hi e) fun h => bnd (snap v) fun x => bnd (slD x l h) fun z => ret (.d z)
def dRev (a : DE) : DE := fun e => bnd (a e) fun v => bnd (snap v) fun x => match x with
  | .lst l => ret (.d (.lst l.reverse))
  | .arr l => ret (.d (.lst (l.reverse.map .int)))
  | _ => stk
def lkN : Nat → List (Nat × Val) → Option Val
  | _, [] => none
  | i, (j, v) :: r => if j = i then some v else lkN i r
def getF (fld : Nat → Option Nat) : Val → M Val
  | .d (.ins c fs) => match fld c with
    | some i => bnd (optM fs[i]?) fun x => ret (.d x)
    | none => stk
  | .cell k => fun s => match s[k]? with
    | some (some (.ins c fs)) => (match fld c with
      | some i => optM (lkN i fs) s
      | none => .stuck)
    | _ => .stuck
  | _ => stk
def dFld (fld : Nat → Option Nat) (a : DE) : DE := fun e => bnd (a e) (getF fld)
end Fb
/-! FbR -/
/-! FbR: how trees, cells, environments stand in the abstract heap; what an evaluation leaves. -/
namespace Fb
open PySem PySem.Spec PyProof.Rows L2
/-- the classes of the text by number: address, names of the fields -/
structure Tb where
  ct : Nat → Option (Addr × List Str)
  xt : Nat → Option (Addr × List Str)
abbrev Kap := List (Option Addr)
def keyK : D → Option Key
  | .int i => some (.inl i)
  | .str x => some (.inr x)
  | _ => none
def keyKs : List D → Option (List Key)
  | [] => some []
  | d :: r => match keyK d, keyKs r with
    | some k, some t => some (k :: t)
    | _, _ => none
def keyT : D → Option (List Key)
  | .tup l => keyKs l
  | _ => none
/-- a tuple, a list that is not written any more, or one of the written part -/
def TupAt (K : PySem.W.Frag) (κ : Kap) (H : Hp) (a : Addr) (xs : List V) : Prop := (some a ∉ κ ∧ H a = some (.tup xs)) ∨ (xs = [] ∧ ∀ H', SqT K H' a [])
def LstAt (κ : Kap) (H : Hp) (a : Addr) (xs : List V) : Prop := some a ∉ κ ∧ H a = some (.lst xs)
def ArrAt (K : PySem.W.Frag) (κ : Kap) (H : Hp) (a : Addr) (xs : List V) : Prop := (some a ∉ κ ∧ Rd H a (.lst xs)) ∨ ∀ H', SqL K H' a xs
section
variable (K : PySem.W.Frag) (T : Tb) (κ : Kap) (H : Hp)
mutual
def Rep : D → V → Prop
  | .non, v => v = .non
  | .bl b, v => v = .bl b
  | .int i, v => v = .int i
  | .str x, v => v = .str x
  | .tup l, v => ∃ a xs, v = .ref a ∧ TupAt K κ H a xs ∧ RepL l xs
  | .lst l, v => ∃ a xs, v = .ref a ∧ LstAt κ H a xs ∧ RepL l xs
  | .dic false l, v => ∃ a o kvs, v = .ref a ∧ some a ∉ κ ∧ H a = some (.frz o (.dK kvs)) ∧ RepPK l kvs
  | .dic true l, v => ∃ a o kvs, v = .ref a ∧ some a ∉ κ ∧ H a = some (.frz o (.dT kvs)) ∧ RepPT l kvs
  | .arr l, v => ∃ a, v = .ref a ∧ ArrAt K κ H a (l.map V.int)
  | .ins c fs, v => ∃ a C dx ns vs, v = .ref a ∧ some a ∉ κ ∧ T.ct c = some (C, ns) ∧ H a = some (.ins C dx (ns.zip vs)) ∧ ns.length = vs.length ∧ RepL fs vs
def RepL : List D → List V → Prop
  | [], xs => xs = []
  | d :: r, xs => ∃ x t, xs = x :: t ∧ Rep d x ∧ RepL r t
def RepPK : List (D × D) → List (Key × V) → Prop
  | [], kvs => kvs = []
  | (k, d) :: r, kvs => ∃ kk x t, kvs = (kk, x) :: t ∧ keyK k = some kk ∧ Rep d x ∧ RepPK r t
def RepPT : List (D × D) → List (List Key × V) → Prop
  | [], kvs => kvs = []
  | (k, d) :: r, kvs => ∃ kk x t, kvs = (kk, x) :: t ∧ keyT k = some kk ∧ Rep d x ∧ RepPT r t
end
def RepVal : Val → V → Prop
  | .d x, v => Rep K T κ H x v
  | .cell k, v => ∃ o, κ[k]? = some o ∧ ∀ a, o = some a → v = .ref a
def RepVals : List Val → List V → Prop
  | [], xs => xs = []
  | d :: r, xs => ∃ x t, xs = x :: t ∧ RepVal K T κ H d x ∧ RepVals r t
/-- a live instance's attributes -/
def FldsOk (ns : List Str) : List (Nat × Val) → List (Str × V) → Prop
  | [], gs => gs = []
  | (i, v) :: r, gs => ∃ n u t, gs = (n, u) :: t ∧ ns[i]? = some n ∧ RepVal K T κ H v u ∧ FldsOk ns r t
def CelOk (a : Addr) : Cel → Prop
  | .lst l => ∃ xs, H a = some (.lst xs) ∧ RepL K T κ H l xs
  | .dic false l => ∃ kvs, H a = some (.dK kvs) ∧ RepPK K T κ H l kvs
  | .dic true l => ∃ kvs, H a = some (.dT kvs) ∧ RepPT K T κ H l kvs
  | .ins c fs => ∃ C dx ns gs, T.ct c = some (C, ns) ∧ ns.Nodup ∧ H a = some (.ins C dx gs) ∧ FldsOk K T κ H ns fs gs
structure Rel (st : Sto) : Prop where
  len : κ.length = st.length
  inj : ∀ (i j : Nat) (a : Addr), κ[i]? = some (some a) → κ[j]? = some (some a) → i = j
  cel : ∀ (i : Nat) (a : Addr), κ[i]? = some (some a) → ∃ c, st[i]? = some (some c) ∧ CelOk K T κ H a c
  live : ∀ (i : Nat) (c : Cel), st[i]? = some (some c) → ∃ a, κ[i]? = some (some a)
def EnvRep (σ : L2.St) (env : DEnv) : Prop := env.length ≤ σ.length ∧ ∀ (i : Nat) (v : Val), env[i]? = some (some v) → ∃ u, σ[i]? = some (some u) ∧ RepVal K T κ H v u
/-- how an exception lies: its class, its own dict -/
def RepX (x : Ex) (cls : Value) (d : Option Addr) : Prop := ∃ C ns, T.xt x.c = some (C, ns) ∧ cls = .ref C ∧
  match x.fs with
  | [] => d = none
  | f :: r => ∃ dx vs, d = some dx ∧ H dx = some (.xd (ns.zip vs)) ∧ ns.length = vs.length ∧ RepL K T κ H (f :: r) vs
end
/-- what a computation does to cells and heap -/
structure Step (κ : Kap) (H : Hp) (κ' : Kap) (H' : Hp) : Prop where
  len : κ.length ≤ κ'.length
  old : ∀ (i : Nat) (a : Addr), i < κ.length → κ'[i]? = some (some a) → κ[i]? = some (some a)
  new : ∀ (i : Nat) (a : Addr), κ.length ≤ i → κ'[i]? = some (some a) → H a = none
  fr : ∀ (a : Addr) (o : HO), H a = some o → some a ∉ κ → H' a = some o
  dom : ∀ (a : Addr), H' a = none → H a = none
theorem Step.refl (κ : Kap) (H : Hp) : Step κ H κ H := ⟨Nat.le_refl _, fun _ _ _ h => h, fun i a hi h => absurd h (by rw [List.getElem?_eq_none hi]; exact fun z => nomatch z), fun _ _ h _ => h, fun _ h => h⟩
theorem Step.out {κ : Kap} {H : Hp} {κ' : Kap} {H' : Hp} (s : Step κ H κ' H') {a : Addr} {o : HO} (h : H a = some o) (n : some a ∉ κ) : some a ∉ κ' := fun hm => by
  obtain ⟨i, hi⟩ := List.mem_iff_getElem?.mp hm
  by_cases hl : i < κ.length
  · exact n (List.mem_of_getElem? (s.old i a hl hi))
  · have q := s.new i a (Nat.le_of_not_lt hl) hi
    rw [h] at q; cases q
theorem Step.trans {κ κ1 κ2 : Kap} {H H1 H2 : Hp} (s : Step κ H κ1 H1) (t : Step κ1 H1 κ2 H2) : Step κ H κ2 H2 where
  len := Nat.le_trans s.len t.len
  old := fun i a hi h => s.old i a hi (t.old i a (Nat.lt_of_lt_of_le hi s.len) h)
  new := fun i a hi h => by
    by_cases hl : i < κ1.length
    · exact s.new i a hi (t.old i a hl h)
    · exact s.dom a (t.new i a (Nat.le_of_not_lt hl) h)
  fr := fun a o h n => t.fr a o (s.fr a o h n) (s.out h n)
  dom := fun a h => s.dom a (t.dom a h)
section
variable {K : PySem.W.Frag} {T : Tb} {κ κ' : Kap} {H H' : Hp}
theorem Rd.step (s : Step κ H κ' H') {a : Addr} {u : HO} (n : some a ∉ κ) (h : Rd H a u) : some a ∉ κ' ∧ Rd H' a u := by
  rcases h with h | ⟨o, h⟩
  · exact ⟨s.out h n, .inl (s.fr _ _ h n)⟩
  · exact ⟨s.out h n, .inr ⟨o, s.fr _ _ h n⟩⟩
theorem TupAt.sq {a : Addr} {xs : List V} (h : TupAt K κ H a xs) : SqT K H a xs := h.elim (fun h => .inl (.inl h.2)) fun h => by rw [h.1]; exact h.2 H
theorem LstAt.sq {a : Addr} {xs : List V} (h : LstAt κ H a xs) : SqL K H a xs := .inl (.inl h.2)
theorem ArrAt.sq {a : Addr} {xs : List V} (h : ArrAt K κ H a xs) : SqL K H a xs := h.elim (fun h => .inl h.2) fun h => h H
theorem TupAt.step (s : Step κ H κ' H') {a : Addr} {xs : List V} (h : TupAt K κ H a xs) : TupAt K κ' H' a xs := h.elim (fun h => .inl ⟨s.out h.2 h.1, s.fr _ _ h.2 h.1⟩) .inr
theorem LstAt.step (s : Step κ H κ' H') {a : Addr} {xs : List V} (h : LstAt κ H a xs) : LstAt κ' H' a xs := ⟨s.out h.2 h.1, s.fr _ _ h.2 h.1⟩
theorem ArrAt.step (s : Step κ H κ' H') {a : Addr} {xs : List V} (h : ArrAt K κ H a xs) : ArrAt K κ' H' a xs := h.elim (fun h => .inl (Rd.step s h.1 h.2)) .inr
mutual
theorem Rep.step (s : Step κ H κ' H') : ∀ (d : D) (v : V), Rep K T κ H d v → Rep K T κ' H' d v
  | .non, _, h => h
  | .bl _, _, h => h
  | .int _, _, h => h
  | .str _, _, h => h
  | .tup l, _, ⟨a, xs, e, t, r⟩ => ⟨a, xs, e, t.step s, RepL.step s l xs r⟩
  | .lst l, _, ⟨a, xs, e, t, r⟩ => ⟨a, xs, e, t.step s, RepL.step s l xs r⟩
  | .dic false l, _, ⟨a, o, kvs, e, n, h, r⟩ => ⟨a, o, kvs, e, s.out h n, s.fr _ _ h n, RepPK.step s l kvs r⟩
  | .dic true l, _, ⟨a, o, kvs, e, n, h, r⟩ => ⟨a, o, kvs, e, s.out h n, s.fr _ _ h n, RepPT.step s l kvs r⟩
  | .arr l, _, ⟨a, e, t⟩ => ⟨a, e, t.step s⟩
  | .ins c fs, _, ⟨a, C, dx, ns, vs, e, n, hc, h, hl, r⟩ => ⟨a, C, dx, ns, vs, e, s.out h n, hc, s.fr _ _ h n, hl, RepL.step s fs vs r⟩
theorem RepL.step (s : Step κ H κ' H') : ∀ (l : List D) (xs : List V), RepL K T κ H l xs → RepL K T κ' H' l xs
  | [], _, h => h
  | d :: r, _, ⟨x, t, e, h1, h2⟩ => ⟨x, t, e, Rep.step s d x h1, RepL.step s r t h2⟩
theorem RepPK.step (s : Step κ H κ' H') : ∀ (l : List (D × D)) (xs : List (Key × V)), RepPK K T κ H l xs → RepPK K T κ' H' l xs
  | [], _, h => h
  | (k, d) :: r, _, ⟨kk, x, t, e, hk, h1, h2⟩ => ⟨kk, x, t, e, hk, Rep.step s d x h1, RepPK.step s r t h2⟩
theorem RepPT.step (s : Step κ H κ' H') : ∀ (l : List (D × D)) (xs : List (List Key × V)), RepPT K T κ H l xs → RepPT K T κ' H' l xs
  | [], _, h => h
  | (k, d) :: r, _, ⟨kk, x, t, e, hk, h1, h2⟩ => ⟨kk, x, t, e, hk, Rep.step s d x h1, RepPT.step s r t h2⟩
end
theorem RepVal.step (s : Step κ H κ' H') : ∀ (d : Val) (v : V), RepVal K T κ H d v → RepVal K T κ' H' d v
  | .d x, v, h => Rep.step s x v h
  | .cell k, v, ⟨o, h, e⟩ => by
    have hk : k < κ.length := (List.getElem?_eq_some_iff.mp h).1
    have hk' : k < κ'.length := Nat.lt_of_lt_of_le hk s.len
    refine ⟨κ'[k], List.getElem?_eq_getElem hk', fun a ea => ?_⟩
    have q := s.old k a hk (by rw [List.getElem?_eq_getElem hk', ea])
    rw [h] at q
    exact e a (Option.some.inj q)
theorem RepVals.step (s : Step κ H κ' H') : ∀ (l : List Val) (xs : List V), RepVals K T κ H l xs → RepVals K T κ' H' l xs
  | [], _, h => h
  | d :: r, _, ⟨x, t, e, h1, h2⟩ => ⟨x, t, e, RepVal.step s d x h1, RepVals.step s r t h2⟩
theorem EnvRep.step {σ : L2.St} {env : DEnv} (s : Step κ H κ' H') (h : EnvRep K T κ H σ env) : EnvRep K T κ' H' σ env := ⟨h.1, fun i v e => by
  obtain ⟨u, h1, h2⟩ := h.2 i v e
  exact ⟨u, h1, RepVal.step s v u h2⟩⟩
theorem EnvRep.set {σ : L2.St} {env : DEnv} (h : EnvRep K T κ H σ env) (i : Nat) {v : Val} {u : V} (r : RepVal K T κ H v u) : EnvRep K T κ H (σ.set i (some u)) (env.set i (some v)) := by
  refine ⟨by rw [List.length_set, List.length_set]; exact h.1, fun j w e => ?_⟩
  by_cases hj : i = j
  · subst hj
    by_cases hl : i < env.length
    · rw [List.getElem?_set_self hl] at e
      cases e
      exact ⟨u, List.getElem?_set_self (Nat.lt_of_lt_of_le hl h.1), r⟩
    · rw [List.getElem?_eq_none (by rw [List.length_set]; omega)] at e
      cases e
  · rw [List.getElem?_set_ne hj] at e
    obtain ⟨u', h1, h2⟩ := h.2 j w e
    exact ⟨u', by rw [List.getElem?_set_ne hj]; exact h1, h2⟩
end
/-! ### what an evaluation leaves -/
section
variable (K : PySem.W.Frag) (T : Tb) (W : WX)
def After {α : Type} (σ : L2.St) (κ : Kap) (H : Hp) (r : Rs α) (P : α → Sto → Kap → Hp → Prop) : Prop := match r with
  | .ok a st' => ∀ κ' H', Step κ H κ' H' → Rel K T κ' H' st' → P a st' κ' H'
  | .exc x st' => ∀ cls d κ' H', Step κ H κ' H' → Rel K T κ' H' st' → RepX K T κ' H' x cls d → W cls d σ H'
  | .stuck => False
end
section
variable {K : PySem.W.Frag} {T : Tb} {W : WX} {α β : Type} {σ : L2.St} {κ κ' : Kap} {H H' : Hp}
theorem After.since {r : Rs α} {P : α → Sto → Kap → Hp → Prop} (s : Step κ H κ' H') (h : After K T W σ κ H r P) : After K T W σ κ' H' r P := by
  cases r with
  | ok a st => exact fun κ2 H2 t => h κ2 H2 (s.trans t)
  | exc x st => exact fun cls d κ2 H2 t => h cls d κ2 H2 (s.trans t)
  | stuck => exact h
theorem After.imp {r : Rs α} {P P' : α → Sto → Kap → Hp → Prop} (h : After K T W σ κ H r P) (i : ∀ a st κ' H', Step κ H κ' H' → Rel K T κ' H' st → P a st κ' H' → P' a st κ' H') : After K T W σ κ H r P' := by
  cases r with
  | ok a st => exact fun κ2 H2 t e => i _ _ _ _ t e (h κ2 H2 t e)
  | exc x st => exact h
  | stuck => exact h
theorem After.bind {m : M α} {f : α → M β} {st : Sto} {P : β → Sto → Kap → Hp → Prop} (h : After K T W σ κ H (bnd m f st) P) :
    After K T W σ κ H (m st) fun a st1 κ1 H1 => After K T W σ κ1 H1 (f a st1) P := by
  unfold bnd at h
  cases q : m st with
  | ok a st1 =>
    rw [q] at h
    exact fun κ1 H1 t e => After.since t h
  | exc x st1 =>
    rw [q] at h
    exact h
  | stuck =>
    rw [q] at h
    exact h
theorem After.retd {a : α} {st : Sto} {P : α → Sto → Kap → Hp → Prop} (e : Rel K T κ H st) (h : After K T W σ κ H (ret a st) P) : P a st κ H := h κ H (Step.refl _ _) e
theorem After.done {a : α} {st : Sto} {P : α → Sto → Kap → Hp → Prop} (s : Step κ H κ' H') (e : Rel K T κ' H' st) (h : After K T W σ κ H (.ok a st) P) : P a st κ' H' := h κ' H' s e
end
/-! ### readings -/
section
variable (K : PySem.W.Frag) (T : Tb) (W : WX)
/-- a configuration: cells and environment as they stand -/
structure Cf (σ : L2.St) (κ : Kap) (H : Hp) (st : Sto) (env : DEnv) : Prop where
  rel : Rel K T κ H st
  env : EnvRep K T κ H σ env
def PV (Q : VK) : Val → Sto → Kap → Hp → Prop := fun v _ κ' H' => ∀ u, RepVal K T κ' H' v u → Q u H'
def tE (f : DE) : TE := fun σ H Q => ∃ κ st env, Cf K T σ κ H st env ∧ After K T W σ κ H (f env st) (PV K T Q)
def tT (f : DT) : TT := fun σ H Q => ∃ κ st env, Cf K T σ κ H st env ∧ After K T W σ κ H (f env st) fun b _ _ H' => Q b H'
def tA (f : DA) : TA := fun σ H Q => ∃ κ st env, Cf K T σ κ H st env ∧ After K T W σ κ H (f env st) fun vs _ κ' H' => ∀ us, RepVals K T κ' H' vs us → Q us H'
end
section
variable {K : PySem.W.Frag} {T : Tb} {W : WX} {σ : L2.St} {κ κ' : Kap} {H H' : Hp} {st st' : Sto} {env : DEnv}
theorem Cf.step (c : Cf K T σ κ H st env) (s : Step κ H κ' H') (e : Rel K T κ' H' st') : Cf K T σ κ' H' st' env := ⟨e, c.env.step s⟩
/-- a reading is weakened -/
theorem pe_imp {X : Cx} {e : Expr} {t t' : TE} (h : PE X e t) (i : ∀ σ H Q, t' σ H Q → t σ H Q) : PE X e t' := ⟨fun pins s σ H Q I q => h.run pins s σ H Q I (i σ H Q q)⟩
theorem pt_imp {X : Cx} {e : Expr} {t t' : TT} (h : PT X e t) (i : ∀ σ H Q, t' σ H Q → t σ H Q) : PT X e t' := ⟨fun pins s σ H Q I q => h.run pins s σ H Q I (i σ H Q q)⟩
theorem pw_imp {X : Cx} {e : Expr} {t t' : TT} (h : PW X e t) (i : ∀ σ H Q, t' σ H Q → t σ H Q) : PW X e t' := ⟨fun wh pins s σ H Q I q => h.run wh pins s σ H Q I (i σ H Q q)⟩
theorem pa_imp {X : Cx} {es : List Expr} {t t' : TA} (h : PA X es t) (i : ∀ σ H Q, t' σ H Q → t σ H Q) : PA X es t' := ⟨fun pos pins s σ H Q I q => h.run pos pins s σ H Q I (i σ H Q q)⟩
theorem ps_imp {X : Cx} {e : Stmt} {t t' : TS} (h : PS X e t) (i : ∀ D σ H, t' D σ H → t D σ H) : PS X e t' := ⟨fun pins s σ H D I q => h.run pins s σ H D I (i D σ H q)⟩
theorem pss_imp {X : Cx} {e : List Stmt} {t t' : TS} (h : PSs X e t) (i : ∀ D σ H, t' D σ H → t D σ H) : PSs X e t' := ⟨fun pins s σ H D I q => h.run pins s σ H D I (i D σ H q)⟩
/-- the two operands of an operation -/
theorem tE2 {f g : DE} {h : Val → Val → M Val} {Q : VK} (q : tE K T W (fun e => bnd (f e) fun v => bnd (g e) fun u => h v u) σ H Q) :
    tE K T W f σ H fun x H1 => tE K T W g σ H1 fun y H2 => ∃ κ st env v u, Cf K T σ κ H2 st env ∧ RepVal K T κ H2 v x ∧ RepVal K T κ H2 u y ∧ After K T W σ κ H2 (h v u st) (PV K T Q) := by
  obtain ⟨κ, st, env, c, a⟩ := q
  refine ⟨κ, st, env, c, a.bind.imp fun v st1 κ1 H1 s1 e1 a1 x rx => ⟨κ1, st1, env, c.step s1 e1, a1.bind.imp fun u st2 κ2 H2 s2 e2 a2 y ry => ?_⟩⟩
  exact ⟨κ2, st2, env, v, u, (c.step s1 e1).step s2 e2, RepVal.step s2 v x rx, ry, a2⟩
theorem tE1 {f : DE} {h : Val → M Val} {Q : VK} (q : tE K T W (fun e => bnd (f e) h) σ H Q) :
    tE K T W f σ H fun x H1 => ∃ κ st env v, Cf K T σ κ H1 st env ∧ RepVal K T κ H1 v x ∧ After K T W σ κ H1 (h v st) (PV K T Q) := by
  obtain ⟨κ, st, env, c, a⟩ := q
  exact ⟨κ, st, env, c, a.bind.imp fun v st1 κ1 H1 s1 e1 a1 x rx => ⟨κ1, st1, env, v, c.step s1 e1, rx, a1⟩⟩
end
end Fb
/-! FbE -/
/-! FbE: rules for expressions: names, constants, arithmetic, displays, tests. -/
namespace Fb
open PySem PySem.Spec PyProof.Rows L2
/-! ### new objects -/
section
variable {K : PySem.W.Frag} {T : Tb} {W : WX} {σ : L2.St} {κ κ' : Kap} {H H' : Hp} {st st' : Sto} {env : DEnv}
theorem CelOk.some {a : Addr} : ∀ {c : Cel}, CelOk K T κ H a c → ∃ o, H a = some o
  | .lst _, ⟨_, h, _⟩ => ⟨_, h⟩
  | .dic false _, ⟨_, h, _⟩ => ⟨_, h⟩
  | .dic true _, ⟨_, h, _⟩ => ⟨_, h⟩
  | .ins _ _, ⟨_, _, _, _, _, _, h, _⟩ => ⟨_, h⟩
theorem FldsOk.step (s : Step κ H κ' H') {ns : List Str} : ∀ (fs : List (Nat × Val)) (gs : List (Str × V)), FldsOk K T κ H ns fs gs → FldsOk K T κ' H' ns fs gs
  | [], _, h => h
  | (i, v) :: r, _, ⟨n, u, t, e, h1, h2, h3⟩ => ⟨n, u, t, e, h1, RepVal.step s v u h2, FldsOk.step s r t h3⟩
theorem CelOk.step (s : Step κ H κ' H') {a : Addr} (e : H' a = H a) : ∀ {c : Cel}, CelOk K T κ H a c → CelOk K T κ' H' a c
  | .lst l, ⟨xs, h, r⟩ => ⟨xs, e.trans h, RepL.step s l xs r⟩
  | .dic false l, ⟨xs, h, r⟩ => ⟨xs, e.trans h, RepPK.step s l xs r⟩
  | .dic true l, ⟨xs, h, r⟩ => ⟨xs, e.trans h, RepPT.step s l xs r⟩
  | .ins c fs, ⟨C, dx, ns, gs, h1, h2, h3, h4⟩ => ⟨C, dx, ns, gs, h1, h2, e.trans h3, FldsOk.step s fs gs h4⟩
theorem Rel.out (r : Rel K T κ H st) {p : Addr} (h : H p = none) : some p ∉ κ := fun hm => by
  obtain ⟨i, hi⟩ := List.mem_iff_getElem?.mp hm
  obtain ⟨c, _, k⟩ := r.cel i p hi
  obtain ⟨o, e⟩ := k.some
  rw [h] at e; cases e
theorem Step.alloc {p : Addr} {o : HO} (h : H p = none) : Step κ H κ (upd H p o) :=
  ⟨Nat.le_refl _, fun _ _ _ h => h, fun i a hi h => absurd h (by rw [List.getElem?_eq_none hi]; exact fun z => nomatch z), fun a u e _ => by rw [upd_ne (ne_of_none e h)]; exact e,
    fun a e => by
      by_cases hp : a = p
      · rw [hp]; exact h
      · rw [upd_ne hp] at e; exact e⟩
/-- cells as they were -/
theorem Rel.keep (r : Rel K T κ H st) (s : Step κ H κ H') (k : ∀ (i : Nat) (a : Addr), κ[i]? = some (some a) → H' a = H a) : Rel K T κ H' st :=
  ⟨r.len, r.inj, fun i a h => by
    obtain ⟨c, h1, h2⟩ := r.cel i a h
    exact ⟨c, h1, h2.step s (k i a h)⟩, r.live⟩
theorem Rel.alloc (r : Rel K T κ H st) {p : Addr} {o : HO} (h : H p = none) : Rel K T κ (upd H p o) st :=
  r.keep (Step.alloc h) fun i a e => upd_ne (fun z => r.out h (by rw [← z]; exact List.mem_of_getElem? e))
theorem rep_lst_new (r : Rel K T κ H st) {p : Addr} (h : H p = none) {l : List D} {xs : List V} (q : RepL K T κ H l xs) : Rep K T κ (upd H p (.lst xs)) (.lst l) (.ref p) :=
  ⟨p, xs, rfl, ⟨r.out h, upd_same⟩, RepL.step (Step.alloc h) l xs q⟩
theorem rep_tup_new (r : Rel K T κ H st) {p : Addr} (h : H p = none) {l : List D} {xs : List V} (q : RepL K T κ H l xs) : Rep K T κ (upd H p (.tup xs)) (.tup l) (.ref p) :=
  ⟨p, xs, rfl, .inl ⟨r.out h, upd_same⟩, RepL.step (Step.alloc h) l xs q⟩
/-! ### a value as it stands now -/
/-- readable as d at this moment -/
def Now (K : PySem.W.Frag) (T : Tb) (κ : Kap) (H : Hp) : D → V → Prop
  | .lst l, v => ∃ a xs, v = .ref a ∧ H a = some (.lst xs) ∧ RepL K T κ H l xs
  | .arr l, v => ∃ a, v = .ref a ∧ SqL K H a (l.map V.int)
  | .tup l, v => ∃ a xs, v = .ref a ∧ TupAt K κ H a xs ∧ RepL K T κ H l xs
  | .dic false l, v => ∃ a kvs, v = .ref a ∧ Rd H a (.dK kvs) ∧ RepPK K T κ H l kvs
  | .dic true l, v => ∃ a kvs, v = .ref a ∧ Rd H a (.dT kvs) ∧ RepPT K T κ H l kvs
  | .ins c fs, v => ∃ a C dx ns vs, v = .ref a ∧ T.ct c = some (C, ns) ∧ H a = some (.ins C dx (ns.zip vs)) ∧ ns.length = vs.length ∧ RepL K T κ H fs vs
  | d, v => Rep K T κ H d v
theorem Rep.now : ∀ {d : D} {v : V}, Rep K T κ H d v → Now K T κ H d v
  | .non, _, h => h
  | .bl _, _, h => h
  | .int _, _, h => h
  | .str _, _, h => h
  | .tup _, _, ⟨a, xs, e, t, r⟩ => ⟨a, xs, e, t, r⟩
  | .lst _, _, ⟨a, xs, e, t, r⟩ => ⟨a, xs, e, t.2, r⟩
  | .arr _, _, ⟨a, e, t⟩ => ⟨a, e, t.sq⟩
  | .dic false _, _, ⟨a, o, kvs, e, _, h, r⟩ => ⟨a, kvs, e, .inr ⟨o, h⟩, r⟩
  | .dic true _, _, ⟨a, o, kvs, e, _, h, r⟩ => ⟨a, kvs, e, .inr ⟨o, h⟩, r⟩
  | .ins _ _, _, ⟨a, C, dx, ns, vs, e, _, hc, h, hl, r⟩ => ⟨a, C, dx, ns, vs, e, hc, h, hl, r⟩
theorem After.snapd {β : Type} {v : Val} {x : V} {k : D → M β} {P : β → Sto → Kap → Hp → Prop} (e : Rel K T κ H st) (rv : RepVal K T κ H v x) (h : After K T W σ κ H (bnd (snap v) k st) P) :
    ∃ d, Now K T κ H d x ∧ After K T W σ κ H (k d st) P ∧ (∀ y, v = .d y → Rep K T κ H d x) := by
  cases v with
  | d y => exact ⟨y, Rep.now rv, h, fun _ _ => rv⟩
  | cell i =>
    obtain ⟨o, ho, hv⟩ := rv
    cases q : st[i]? with
    | none =>
      rw [bnd_stk (by simp only [snap, q])] at h
      exact h.elim
    | some c =>
      cases c with
      | none =>
        rw [bnd_stk (by simp only [snap, q])] at h
        exact h.elim
      | some c =>
        obtain ⟨a, ha⟩ := e.live i c q
        have hx := hv a (Option.some.inj (ho.symm.trans ha))
        obtain ⟨c', hc', ok⟩ := e.cel i a ha
        rw [q] at hc'
        cases hc'
        cases c with
        | lst l =>
          rw [bnd_ok (a := .lst l) (s' := st) (by simp only [snap, q])] at h
          obtain ⟨xs, e1, e2⟩ := ok
          exact ⟨.lst l, ⟨a, xs, hx, e1, e2⟩, h, fun y z => nomatch z⟩
        | dic t l =>
          rw [bnd_ok (a := .dic t l) (s' := st) (by simp only [snap, q])] at h
          cases t with
          | false =>
            obtain ⟨xs, e1, e2⟩ := ok
            exact ⟨.dic false l, ⟨a, xs, hx, .inl e1, e2⟩, h, fun y z => nomatch z⟩
          | true =>
            obtain ⟨xs, e1, e2⟩ := ok
            exact ⟨.dic true l, ⟨a, xs, hx, .inl e1, e2⟩, h, fun y z => nomatch z⟩
        | ins c fs =>
          rw [bnd_stk (by simp only [snap, q])] at h
          exact h.elim
theorem After.plaind {β : Type} {v : Val} {x : V} {k : D → M β} {P : β → Sto → Kap → Hp → Prop} (rv : RepVal K T κ H v x) (h : After K T W σ κ H (bnd (plain v) k st) P) :
    ∃ d, Rep K T κ H d x ∧ After K T W σ κ H (k d st) P := by
  cases v with
  | d y => exact ⟨y, rv, h⟩
  | cell i => exact h.elim
theorem After.plainsd {β : Type} {P : β → Sto → Kap → Hp → Prop} : ∀ {vs : List Val} {xs : List V} {k : List D → M β}, RepVals K T κ H vs xs → After K T W σ κ H (bnd (plains vs) k st) P →
    ∃ ds, RepL K T κ H ds xs ∧ After K T W σ κ H (k ds st) P
  | [], xs, k, r, h => ⟨[], r, h⟩
  | v :: vs, xs, k, ⟨x, t, e, r1, r2⟩, h => by
    cases v with
    | cell i => exact h.elim
    | d y =>
      subst e
      have h2 : After K T W σ κ H (bnd (plains vs) (fun t => k (y :: t)) st) P := by
        have q : bnd (plains (.d y :: vs)) k st = bnd (plains vs) (fun t => k (y :: t)) st := by
          show bnd (bnd (plains vs) fun t => ret (y :: t)) k st = _
          rw [bnd_assoc]
          rfl
        rw [← q]
        exact h
      obtain ⟨ds, r3, h3⟩ := After.plainsd r2 h2
      exact ⟨y :: ds, ⟨x, t, rfl, r1, r3⟩, h3⟩
end
/-! ### names and constants -/
section
variable {X : Cx} {T : Tb} {W : WX} {pos : Pos}
theorem e_var (i : Nat) {x : Str} (h : PE X (.Name x pos) (tVar i)) : PE X (.Name x pos) (tE X.K T W (dVar i)) := pe_imp h fun σ H Q ⟨κ, st, env, c, a⟩ => by
  have a2 : After X.K T W σ κ H (match env[i]? with | some (some v) => Rs.ok v st | _ => .stuck) (PV X.K T Q) := a
  cases q : env[i]? with
  | none => rw [q] at a2; exact a2.elim
  | some o =>
    cases o with
    | none => rw [q] at a2; exact a2.elim
    | some v =>
      rw [q] at a2
      obtain ⟨u, h1, h2⟩ := c.env.2 i v q
      exact ⟨u, h1, After.done (Step.refl _ _) c.rel a2 u h2⟩
theorem e_con {e : Expr} {v : V} {d : D} (h : PE X e (tC v)) (r : ∀ κ H, Rep X.K T κ H d v) : PE X e (tE X.K T W (dCon d)) := pe_imp h fun σ H Q ⟨κ, st, env, c, a⟩ =>
  After.done (Step.refl _ _) c.rel a v (r κ H)
theorem e_int {i : Int} {j : Nat} : PE X (.Constant (.int i) j pos) (tE X.K T W (dCon (.int i))) := e_con pe_int fun _ _ => rfl
theorem e_bl {b : Bool} {j : Nat} : PE X (.Constant (.bool b) j pos) (tE X.K T W (dCon (.bl b))) := e_con pe_bl fun _ _ => rfl
theorem e_non {j : Nat} : PE X (.Constant .none j pos) (tE X.K T W (dCon .non)) := e_con pe_non fun _ _ => rfl
theorem e_str {x : Str} {j : Nat} : PE X (.Constant (.str x) j pos) (tE X.K T W (dCon (.str x))) := e_con pe_str fun _ _ => rfl
/-- a module's int or text -/
theorem e_gint {x : Str} {i : Int} (hg : Gl X x) (hm : ∃ t, X.mg x = some (.int i t)) (hd : (x == ("__debug__" : Str)) = false := by decide) : PE X (.Name x pos) (tE X.K T W (dCon (.int i))) := by
  obtain ⟨t, hm⟩ := hm
  exact e_con (pe_glob (v := .int i) hg hm ⟨t, rfl⟩ hd) fun _ _ => rfl
theorem e_gstr {x z : Str} (hg : Gl X x) (hm : ∃ t, X.mg x = some (.str z t)) (hd : (x == ("__debug__" : Str)) = false := by decide) : PE X (.Name x pos) (tE X.K T W (dCon (.str z))) := by
  obtain ⟨t, hm⟩ := hm
  exact e_con (pe_glob (v := .str z) hg hm ⟨t, rfl⟩ hd) fun _ _ => rfl
theorem e_pow {i j : Int} {k l : Nat} {p q : Pos} (h : CPow i j) : PE X (.BinOp (.Constant (.int i) k p) .Pow (.Constant (.int j) l q) pos) (tE X.K T W (dCon (.int (i ^ j.toNat)))) :=
  pe_imp (pe_op op_pow pe_int pe_int) fun σ H Q ⟨κ, st, env, c, a⟩ => ⟨i, j, rfl, rfl, h, After.done (Step.refl _ _) c.rel a _ rfl⟩
/-! ### argument lists, displays -/
variable {e : Expr} {es : List Expr} {f : DE} {g : DA}
theorem a_nil : PA X [] (tA X.K T W dNil) := pa_imp pa_nil fun σ H Q ⟨κ, st, env, c, a⟩ => After.done (Step.refl _ _) c.rel a [] rfl
theorem a_cons (ha : PE X e (tE X.K T W f)) (hr : PA X es (tA X.K T W g)) (hs : starEach (e :: es) X.env = (false, eval e X.env) :: starEach es X.env := by rfl) : PA X (e :: es) (tA X.K T W (dCons f g)) :=
  pa_imp (pa_cons ha hr hs) fun σ H Q ⟨κ, st, env, c, a⟩ => ⟨κ, st, env, c, a.bind.imp fun v st1 κ1 H1 s1 e1 a1 x rx => ⟨κ1, st1, env, c.step s1 e1, a1.bind.imp fun vs st2 κ2 H2 s2 e2 a2 xs rxs =>
    After.retd e2 a2 (x :: xs) ⟨x, xs, rfl, RepVal.step s2 v x rx, rxs⟩⟩⟩
/-- lengths below the line are checked where a list is made -/
theorem RepL.length {K : PySem.W.Frag} {κ : Kap} {H : Hp} : ∀ {l : List D} {xs : List V}, RepL K T κ H l xs → l.length = xs.length
  | [], _, h => by cases (show _ = [] from h); rfl
  | d :: r, _, ⟨x, t, e, _, h⟩ => by rw [e, List.length_cons, List.length_cons, RepL.length h]
theorem After.capd {α : Type} {K : PySem.W.Frag} {W : WX} {σ : L2.St} {κ : Kap} {H : Hp} {n : Nat} {m : M α} {st : Sto} {P : α → Sto → Kap → Hp → Prop} (h : After K T W σ κ H (cap n m st) P) : n < 1000000 ∧ After K T W σ κ H (m st) P := by
  unfold cap at h
  by_cases q : n < 1000000
  · rw [if_pos q] at h; exact ⟨q, h⟩
  · rw [if_neg q] at h; exact h.elim
theorem million {n : Nat} (h : n < 1000000) : n ≤ sizeLine := by rw [sizeLine_eq]; omega
theorem e_tup {x1 : Nat} (h : PA X es (tA X.K T W g)) : PE X (.Tuple es x1 pos) (tE X.K T W (dTup g)) := pe_imp (pe_tup h) fun σ H Q ⟨κ, st, env, c, a⟩ => by
  refine ⟨κ, st, env, c, a.bind.imp fun vs st1 κ1 H1 s1 e1 a1 us rus => ?_⟩
  obtain ⟨ds, rd, a2⟩ := After.plainsd rus a1
  obtain ⟨hz, a3⟩ := a2.capd
  rw [RepL.length rd] at hz
  exact ⟨million hz, fun p hp => After.done (Step.alloc hp) (e1.alloc hp) a3 _ (rep_tup_new e1 hp rd)⟩
theorem e_lst (h : PA X es (tA X.K T W g)) : PE X (.List es pos) (tE X.K T W (dLst g)) := pe_imp (pe_lst h) fun σ H Q ⟨κ, st, env, c, a⟩ => by
  refine ⟨κ, st, env, c, a.bind.imp fun vs st1 κ1 H1 s1 e1 a1 us rus => ?_⟩
  obtain ⟨ds, rd, a2⟩ := After.plainsd rus a1
  obtain ⟨hz, a3⟩ := a2.capd
  rw [RepL.length rd] at hz
  exact ⟨million hz, fun p hp => After.done (Step.alloc hp) (e1.alloc hp) a3 _ (rep_lst_new e1 hp rd)⟩
end
end Fb
/-! FbO -/
/-! FbO: operators, tests, subscripts. -/
namespace Fb
open PySem PySem.Spec PyProof.Rows L2
section
variable {X : Cx} {K : PySem.W.Frag} {T : Tb} {W : WX} {κ κ' : Kap} {H H' : Hp} {st st' : Sto} {env : DEnv} {pins : List (Addr × Obj)} {σ σ' : L2.St} {s : Shared}
theorem RepL.app : ∀ {l m : List D} {xs ys : List V}, RepL K T κ H l xs → RepL K T κ H m ys → RepL K T κ H (l ++ m) (xs ++ ys)
  | [], _, _, _, h, q => by cases (show _ = [] from h); exact q
  | d :: r, _, _, _, ⟨x, t, e, h1, h2⟩, q => by subst e; exact ⟨x, _, rfl, h1, RepL.app h2 q⟩
theorem RepL.get : ∀ {l : List D} {xs : List V} {i : Nat} {d : D}, RepL K T κ H l xs → l[i]? = some d → ∃ x, xs[i]? = some x ∧ Rep K T κ H d x
  | [], _, _, _, _, h => by simp at h
  | d :: r, _, 0, _, ⟨x, t, e, h1, _⟩, h => by simp at h; subst h; subst e; exact ⟨x, rfl, h1⟩
  | d :: r, _, i + 1, _, ⟨x, t, e, _, h2⟩, h => by
    subst e
    obtain ⟨y, h3, h4⟩ := RepL.get (i := i) h2 (by simpa using h)
    exact ⟨y, by simpa using h3, h4⟩
theorem RepL.rep {l : List D} {xs : List V} (h : RepL K T κ H l xs) : ∀ n : Nat, RepL K T κ H (List.replicate n l).flatten (List.replicate n xs).flatten
  | 0 => rfl
  | n + 1 => by
    rw [List.replicate_succ, List.replicate_succ, List.flatten_cons, List.flatten_cons]
    exact RepL.app h (RepL.rep h n)
theorem RepL.ints : ∀ l : List Int, RepL K T κ H (l.map .int) (l.map V.int)
  | [] => rfl
  | i :: r => ⟨_, _, rfl, rfl, RepL.ints r⟩
/-- what a list is, read: its exact object -/
theorem Inv.exact (I : Inv X pins σ H s) {a : Addr} {xs : List V} (h : H a = some (.lst xs)) : xs.length ≤ sizeLine ∧ ∃ (its : List Value) (n : Nat), Vals xs its ∧ s.heap.get? a = some { cls := .type "list", data := .seq its.toArray n } := I.hok a _ h
/-- an operation on two trees -/
def rD (K : PySem.W.Frag) (T : Tb) (k : D → D → M D) : R2 := fun x y H Q => ∃ κ st dx dy σ W, Rel K T κ H st ∧ Now K T κ H dx x ∧ Now K T κ H dy y ∧ After K T W σ κ H (bnd (k dx dy) (fun z => ret (.d z)) st) (PV K T Q)
def rC (K : PySem.W.Frag) (T : Tb) (k : D → D → M Bool) : R2 := fun x y H Q => ∃ κ st dx dy σ W, Rel K T κ H st ∧ Now K T κ H dx x ∧ Now K T κ H dy y ∧ After K T W σ κ H (k dx dy st) (fun b _ _ H' => Q (.bl b) H')
theorem After.opD {k : D → D → M D} {v u : Val} {x y : V} {Q : VK} (e : Rel K T κ H st) (r1 : RepVal K T κ H v x) (r2 : RepVal K T κ H u y) (h : After K T W σ κ H (opD k v u st) (PV K T Q)) : rD K T k x y H Q := by
  obtain ⟨dx, n1, h, _⟩ := After.snapd e r1 h
  obtain ⟨dy, n2, h, _⟩ := After.snapd e r2 h
  exact ⟨κ, st, dx, dy, σ, W, e, n1, n2, h⟩
theorem After.opB {k : D → D → M Bool} {v u : Val} {x y : V} {Q : Bool → Hp → Prop} (e : Rel K T κ H st) (r1 : RepVal K T κ H v x) (r2 : RepVal K T κ H u y) (h : After K T W σ κ H (opB k v u st) (fun b _ _ H' => Q b H')) :
    rC K T k x y H fun z H1 => ∃ b, z = .bl b ∧ Q b H1 := by
  obtain ⟨dx, n1, h, _⟩ := After.snapd e r1 h
  obtain ⟨dy, n2, h, _⟩ := After.snapd e r2 h
  exact ⟨κ, st, dx, dy, σ, W, e, n1, n2, h.imp fun b _ _ _ _ _ q => ⟨b, rfl, q⟩⟩
theorem stuck_bnd {α β : Type} {f : α → M β} {P : β → Sto → Kap → Hp → Prop} (h : After K T W σ κ H (bnd stk f st) P) : False := h
theorem stuck_if {α β : Type} {c : Prop} [Decidable c] {m : M α} {f : α → M β} {P : β → Sto → Kap → Hp → Prop} (h : After K T W σ κ H (bnd (if c then m else stk) f st) P) : c ∧ After K T W σ κ H (bnd m f st) P := by
  by_cases q : c
  · rw [if_pos q] at h; exact ⟨q, h⟩
  · rw [if_neg q] at h; exact h.elim
theorem stuck_ifB {α : Type} {c : Prop} [Decidable c] {m : M α} {P : α → Sto → Kap → Hp → Prop} (h : After K T W σ κ H ((if c then m else stk) st) P) : c ∧ After K T W σ κ H (m st) P := by
  by_cases q : c
  · rw [if_pos q] at h; exact ⟨q, h⟩
  · rw [if_neg q] at h; exact h.elim
/-- a scalar result -/
theorem fin_sc {z : D} {v : V} {Q : VK} (e : Rel K T κ H st) (h : After K T W σ κ H (bnd (ret z) (fun z => ret (.d z)) st) (PV K T Q)) (r : Rep K T κ H z v) : Q v H := After.done (Step.refl _ _) e h v r
theorem fin_new {z : D} {p : Addr} {o : HO} {Q : VK} (e : Rel K T κ H st) (h : After K T W σ κ H (bnd (ret z) (fun z => ret (.d z)) st) (PV K T Q)) (hp : H p = none) (r : Rep K T κ (upd H p o) z (.ref p)) : Q (.ref p) (upd H p o) :=
  After.done (Step.alloc hp) (e.alloc hp) h _ r
theorem o_add : OpR X (binaryOp .Add) (rD X.K T (binD .add)) := by
  intro pins s σ H x y v u Q I rx ry ⟨κ, st, dx, dy, σ', W, e, n1, n2, a⟩
  cases dx <;> cases dy <;> first
    | exact (stuck_bnd a).elim
    | skip
  · rename_i i j
    cases n1; cases n2
    exact op_add pins s σ H _ _ v u Q I rx ry ⟨i, j, rfl, rfl, fin_sc e a rfl⟩
  · rename_i i j
    cases n1; cases n2
    obtain ⟨hz, a⟩ := stuck_if a
    exact op_add_str pins s σ H _ _ v u Q I rx ry ⟨i, j, rfl, rfl, hz, fin_sc e a rfl⟩
  · rename_i l m
    obtain ⟨hz, a⟩ := stuck_if a
    obtain ⟨p, xs, rfl, hs, r1⟩ := n1
    obtain ⟨q, ys, rfl, ht, r2⟩ := n2
    refine op_catA pins s σ H _ _ v u Q I rx ry ⟨p, q, xs, ys, rfl, rfl, hs.sq, ht.sq, by rw [← RepL.length r1, ← RepL.length r2]; exact hz, fun z => ?_, fun z z' => ?_, fun _ _ b hb => ?_⟩
    · subst z
      cases l with
      | nil => exact fin_sc e a ⟨q, ys, rfl, ht, r2⟩
      | cons d l => obtain ⟨_, _, z, _⟩ := r1; cases z
    · subst z'
      cases m with
      | nil => exact fin_sc e a ⟨p, xs, rfl, hs, by rw [List.append_nil]; exact r1⟩
      | cons d l => obtain ⟨_, _, z, _⟩ := r2; cases z
    · exact fin_new e a hb (rep_tup_new e hb (r1.app r2))
  · rename_i l m
    obtain ⟨hz, a⟩ := stuck_if a
    obtain ⟨p, xs, rfl, hs, r1⟩ := n1
    obtain ⟨q, ys, rfl, ht, r2⟩ := n2
    obtain ⟨_, its, n, q1, e1⟩ := Inv.exact I hs
    obtain ⟨_, its2, n2, q2, e2⟩ := Inv.exact I ht
    cases rx
    cases ry
    have hz2 : its.toArray.size + its2.toArray.size ≤ sizeLine := by rw [List.size_toArray, List.size_toArray, ← q1.length, ← q2.length, ← RepL.length r1, ← RepL.length r2]; exact hz
    refine PySem.P.add_list e1 e2 ?_ hz2
    have hp : H s.heap.objs.size = none := I.hok.fresh (Nat.le_refl _)
    refine ⟨.ref s.heap.objs.size, _, I.laid (t' := s.toks) (fun b o z => Heap.get?_push_of_some _ z) (Nat.le_refl _) ?_, rfl, fin_new e a hp (rep_lst_new e hp (r1.app r2))⟩
    refine ⟨by rw [List.length_append, ← RepL.length r1, ← RepL.length r2]; exact hz, its ++ its2, 0, q1.append q2, ?_⟩
    have ea : its.toArray ++ its2.toArray = (its ++ its2).toArray := by simp
    rw [ea]
    exact Heap.get?_push_size _ rfl
theorem o_sub : OpR X (binaryOp .Sub) (rD X.K T (binD .sub)) := by
  intro pins s σ H x y v u Q I rx ry ⟨κ, st, dx, dy, σ', W, e, n1, n2, a⟩
  cases dx <;> cases dy <;> first
    | exact (stuck_bnd a).elim
    | skip
  rename_i i j
  cases n1; cases n2
  exact op_sub pins s σ H _ _ v u Q I rx ry ⟨i, j, rfl, rfl, fin_sc e a rfl⟩
theorem mul_ok {i j : Int} (h : i.natAbs < 2 ^ 64 ∨ j.natAbs < 2 ^ 64) : CMul i j := by
  rcases h with h | h
  · exact .inl (by omega)
  · exact .inr (by omega)
theorem o_mul : OpR X (binaryOp .Mult) (rD X.K T (binD .mul)) := by
  intro pins s σ H x y v u Q I rx ry ⟨κ, st, dx, dy, σ', W, e, n1, n2, a⟩
  cases dx <;> cases dy <;> first
    | exact (stuck_bnd a).elim
    | skip
  · rename_i i j
    cases n1; cases n2
    obtain ⟨hz, a⟩ := stuck_if a
    exact op_mul pins s σ H _ _ v u Q I rx ry ⟨i, j, rfl, rfl, mul_ok hz, fin_sc e a rfl⟩
  · rename_i l k
    cases n2
    obtain ⟨⟨h1, h2, h3, hne⟩, a⟩ := stuck_if a
    obtain ⟨p, xs, rfl, hs, r1⟩ := n1
    exact op_repT pins s σ H _ _ v u Q I rx ry ⟨p, k, xs, rfl, rfl, hs.sq, (by rintro rfl; cases l with | nil => exact hne rfl | cons => obtain ⟨_, _, z, _⟩ := r1; cases z), h1, h2, by rw [← RepL.length r1]; exact h3, fun b hb => fin_new e a hb (rep_tup_new e hb (r1.rep _))⟩
  · rename_i l k
    cases n2
    obtain ⟨⟨h1, h2, h3⟩, a⟩ := stuck_if a
    obtain ⟨p, xs, rfl, hs, r1⟩ := n1
    exact op_rep pins s σ H _ _ v u Q I rx ry ⟨p, k, xs, rfl, rfl, hs, h1, h2, by rw [← RepL.length r1]; exact h3, fun b hb => fin_new e a hb (rep_lst_new e hb (r1.rep _))⟩
theorem o_fdiv : OpR X (binaryOp .FloorDiv) (rD X.K T (binD .fdiv)) := by
  intro pins s σ H x y v u Q I rx ry ⟨κ, st, dx, dy, σ', W, e, n1, n2, a⟩
  cases dx <;> cases dy <;> first
    | exact (stuck_bnd a).elim
    | skip
  rename_i i j
  cases n1; cases n2
  obtain ⟨⟨h1, h2⟩, a⟩ := stuck_if a
  exact op_fdivW pins s σ H _ _ v u Q I rx ry ⟨i, j, rfl, rfl, wide_div h1 h2 (by decide) (by decide), fin_sc e a rfl⟩
theorem o_mod : OpR X (binaryOp .Mod) (rD X.K T (binD .mod)) := by
  intro pins s σ H x y v u Q I rx ry ⟨κ, st, dx, dy, σ', W, e, n1, n2, a⟩
  cases dx <;> cases dy <;> first
    | exact (stuck_bnd a).elim
    | skip
  rename_i i j
  cases n1; cases n2
  obtain ⟨h1, a⟩ := stuck_if a
  exact op_mod pins s σ H _ _ v u Q I rx ry ⟨i, j, rfl, rfl, h1, fin_sc e a rfl⟩
end
end Fb
/-! FbT -/
/-! FbT: == and in, comparisons, tests. -/
namespace Fb
open PySem PySem.Spec PyProof.Rows L2
/-! ### data -/
mutual
def toPy : D → PyData
  | .non => .none
  | .bl b => .bool b
  | .int i => .int i
  | .str x => .str x
  | .tup l => .tuple (toPys l)
  | .lst l => .list (toPys l)
  | _ => .none
def toPys : List D → List PyData
  | [] => []
  | d :: r => toPy d :: toPys r
end
section
variable {K : PySem.W.Frag} {T : Tb} {κ : Kap} {H : Hp}
mutual
theorem rep_dp : ∀ (d : D) (n : Nat) (x : V), isData n d = true → Rep K T κ H d x → Dp K H x (toPy d)
  | _, 0, _, h, _ => nomatch h
  | .non, _ + 1, _, _, r => by cases (show _ = _ from r); exact .non
  | .bl b, _ + 1, _, _, r => by cases (show _ = _ from r); exact .bl b
  | .int i, _ + 1, _, _, r => by cases (show _ = _ from r); exact .int i
  | .str x, _ + 1, _, _, r => by cases (show _ = _ from r); exact .str x
  | .tup l, n + 1, _, h, ⟨a, xs, e, t, r⟩ => by subst e; exact .tup t.sq (reps_dp l n xs (by simpa [isData] using h) r)
  | .lst l, n + 1, _, h, ⟨a, xs, e, t, r⟩ => by subst e; exact .lst t.sq (reps_dp l n xs (by simpa [isData] using h) r)
  | .dic _ _, _ + 1, _, h, _ => nomatch h
  | .ins _ _, _ + 1, _, h, _ => nomatch h
  | .arr _, _ + 1, _, h, _ => nomatch h
theorem reps_dp : ∀ (l : List D) (n : Nat) (xs : List V), (∀ d ∈ l, isData n d = true) → RepL K T κ H l xs → DpAll K H xs (toPys l)
  | [], _, _, _, r => by cases (show _ = [] from r); exact .nil
  | d :: l, n, _, h, ⟨x, t, e, r1, r2⟩ => by
    subst e
    exact .cons (rep_dp d n x (h d (List.mem_cons_self ..)) r1) (reps_dp l n t (fun z hz => h z (List.mem_cons_of_mem _ hz)) r2)
end
theorem now_dp {d : D} {n : Nat} {x : V} (h : isData n d = true) (r : Now K T κ H d x) : Dp K H x (toPy d) := by
  cases n with
  | zero => exact nomatch h
  | succ n =>
    cases d with
    | non => cases (show _ = _ from r); exact .non
    | bl b => cases (show _ = _ from r); exact .bl b
    | int i => cases (show _ = _ from r); exact .int i
    | str x => cases (show _ = _ from r); exact .str x
    | tup l =>
      obtain ⟨a, xs, e, t, r⟩ := r
      subst e
      exact .tup t.sq (reps_dp l n xs (by simpa [isData] using h) r)
    | lst l =>
      obtain ⟨a, xs, e, t, r⟩ := r
      subst e
      exact .lst (.inl (.inl t)) (reps_dp l n xs (by simpa [isData] using h) r)
    | dic _ _ => exact nomatch h
    | ins _ _ => exact nomatch h
    | arr _ => exact nomatch h
end
mutual
theorem lay_py : ∀ (d : D) (n : Nat), isData n d = true → (toPy d).canLay0 = true
  | _, 0, h => nomatch h
  | .non, _ + 1, _ => rfl
  | .bl b, _ + 1, _ => rfl
  | .int i, _ + 1, _ => rfl
  | .str x, _ + 1, h => h
  | .tup l, n + 1, h => lays_py l n (by simpa [isData] using h)
  | .lst l, n + 1, h => lays_py l n (by simpa [isData] using h)
  | .dic _ _, _ + 1, h => nomatch h
  | .ins _ _, _ + 1, h => nomatch h
  | .arr _, _ + 1, h => nomatch h
theorem lays_py : ∀ (l : List D) (n : Nat), (∀ d ∈ l, isData n d = true) → PyData.canLayAll0 (toPys l) = true
  | [], _, _ => rfl
  | d :: l, n, h => by
    show (PyData.canLay0 (toPy d) && PyData.canLayAll0 (toPys l)) = true
    rw [lay_py d n (h d (List.mem_cons_self ..)), lays_py l n fun z hz => h z (List.mem_cons_of_mem _ hz)]
    rfl
end
mutual
theorem dep_py : ∀ (d : D) (n : Nat), isData n d = true → (toPy d).depth ≤ n
  | _, 0, h => nomatch h
  | .non, _ + 1, _ => Nat.zero_le _
  | .bl b, _ + 1, _ => Nat.zero_le _
  | .int i, _ + 1, _ => Nat.zero_le _
  | .str x, _ + 1, h => Nat.zero_le _
  | .tup l, n + 1, h => Nat.succ_le_succ (deps_py l n (by simpa [isData] using h))
  | .lst l, n + 1, h => Nat.succ_le_succ (deps_py l n (by simpa [isData] using h))
  | .dic _ _, _ + 1, h => nomatch h
  | .ins _ _, _ + 1, h => nomatch h
  | .arr _, _ + 1, h => nomatch h
theorem deps_py : ∀ (l : List D) (n : Nat), (∀ d ∈ l, isData n d = true) → PyData.depthAll (toPys l) ≤ n
  | [], _, _ => Nat.zero_le _
  | d :: l, n, h => Nat.max_le.mpr ⟨dep_py d n (h d (List.mem_cons_self ..)), deps_py l n fun z hz => h z (List.mem_cons_of_mem _ hz)⟩
end
theorem shaped_py {d : D} {n : Nat} (h : isData n d = true) (hn : n ≤ 64) : SeqAt.shaped (toPy d) = true := by
  unfold SeqAt.shaped
  rw [lay_py d n h, decide_eq_true (Nat.le_trans (dep_py d n h) hn)]
  rfl
mutual
theorem eqv_py : ∀ (d e : D) (n m : Nat), isData n d = true → isData m e = true → PyData.eqv (toPy d) (toPy e) = eqD d e
  | .non, e, n + 1, m + 1, _, h => by cases e <;> first | rfl | exact nomatch h
  | .bl b, e, n + 1, m + 1, _, h => by cases e <;> first | rfl | exact nomatch h
  | .int i, e, n + 1, m + 1, _, h => by
    cases e with
    | bl b => show (i == (if b then 1 else 0)) = ((if b then 1 else 0) == i); exact Bool.eq_iff_iff.mpr ⟨fun z => by rw [beq_iff_eq] at z ⊢; exact z.symm, fun z => by rw [beq_iff_eq] at z ⊢; exact z.symm⟩
    | _ => first | rfl | exact nomatch h
  | .str x, e, n + 1, m + 1, _, h => by cases e <;> first | rfl | exact nomatch h
  | .tup l, e, n + 1, m + 1, h, h' => by
    cases e with
    | tup l' => exact eqvs_py l l' n m (by simpa [isData] using h) (by simpa [isData] using h')
    | _ => first | rfl | exact nomatch h'
  | .lst l, e, n + 1, m + 1, h, h' => by
    cases e with
    | lst l' => exact eqvs_py l l' n m (by simpa [isData] using h) (by simpa [isData] using h')
    | _ => first | rfl | exact nomatch h'
  | .dic _ _, _, _ + 1, _, h, _ => nomatch h
  | .ins _ _, _, _ + 1, _, h, _ => nomatch h
  | .arr _, _, _ + 1, _, h, _ => nomatch h
  | _, _, 0, _, h, _ => nomatch h
  | _, _, _, 0, _, h => nomatch h
theorem eqvs_py : ∀ (l l' : List D) (n m : Nat), (∀ d ∈ l, isData n d = true) → (∀ d ∈ l', isData m d = true) → PyData.eqvAll (toPys l) (toPys l') = eqL l l'
  | [], [], _, _, _, _ => rfl
  | [], _ :: _, _, _, _, _ => rfl
  | _ :: _, [], _, _, _, _ => rfl
  | d :: l, d' :: l', n, m, h, h' => by
    show (PyData.eqv (toPy d) (toPy d') && PyData.eqvAll (toPys l) (toPys l')) = (eqD d d' && eqL l l')
    rw [eqv_py d d' n m (h d (List.mem_cons_self ..)) (h' d' (List.mem_cons_self ..)), eqvs_py l l' n m (fun z hz => h z (List.mem_cons_of_mem _ hz)) fun z hz => h' z (List.mem_cons_of_mem _ hz)]
end
theorem inL_py {x : D} {n m : Nat} (h : isData n x = true) : ∀ l : List D, (∀ d ∈ l, isData m d = true) → ((toPys l).any fun z => PyData.eqv z (toPy x)) = inL x l
  | [], _ => rfl
  | d :: l, hl => by
    show (PyData.eqv (toPy d) (toPy x) || (toPys l).any fun z => PyData.eqv z (toPy x)) = (eqD d x || inL x l)
    rw [eqv_py d x m n (hl d (List.mem_cons_self ..)) h, inL_py h l fun z hz => hl z (List.mem_cons_of_mem _ hz)]
end Fb
namespace Fb
open PySem PySem.Spec PyProof.Rows L2
/-! ### keys of dicts -/
theorem keyEq_K {j k : D} {a b : Key} (h1 : keyK j = some a) (h2 : keyK k = some b) : keyEq j k = decide (a = b) := by
  cases j <;> cases h1 <;> cases k <;> cases h2
  · rename_i i i'
    show (i == i') = decide ((Sum.inl i : Key) = Sum.inl i')
    rw [key_ll]
  · rename_i i x
    show false = decide ((Sum.inl i : Key) = Sum.inr x)
    rw [key_lr]
  · rename_i x i
    show false = decide ((Sum.inr x : Key) = Sum.inl i)
    rw [key_rl]
  · rename_i x x'
    show (x == x') = decide ((Sum.inr x : Key) = Sum.inr x')
    rw [key_rr]
    exact Bool.eq_iff_iff.mpr (by simp)
theorem keyEq_Ks : ∀ {l m : List D} {a b : List Key}, keyKs l = some a → keyKs m = some b → atomsEq l m = decide (a = b)
  | [], [], _, _, h1, h2 => by cases h1; cases h2; rfl
  | [], _ :: m, _, b, h1, h2 => by
    cases h1
    have e : b ≠ [] := by
      rintro rfl
      unfold keyKs at h2
      split at h2 <;> cases h2
    exact (decide_eq_false fun z => e z.symm).symm
  | _ :: l, [], a, _, h1, h2 => by
    cases h2
    have e : a ≠ [] := by
      rintro rfl
      unfold keyKs at h1
      split at h1 <;> cases h1
    exact (decide_eq_false e).symm
  | d :: l, d' :: m, a, b, h1, h2 => by
    unfold keyKs at h1 h2
    split at h1
    · rename_i k t e1 e2
      cases h1
      split at h2
      · rename_i k' t' e3 e4
        cases h2
        have q1 := keyEq_K e1 e3
        have q2 := keyEq_Ks e2 e4
        have q0 : atomEq d d' = keyEq d d' := by
          cases d <;> cases e1 <;> cases d' <;> cases e3 <;> rfl
        show (atomEq d d' && atomsEq l m) = _
        rw [q0, q1, q2]
        exact Bool.eq_iff_iff.mpr (by simp)
      · cases h2
    · cases h1
theorem keyEq_T {j k : D} {a b : List Key} (h1 : keyT j = some a) (h2 : keyT k = some b) : keyEq j k = decide (a = b) := by
  cases j <;> first | (cases h1; done) | skip
  cases k <;> first | (cases h2; done) | skip
  exact keyEq_Ks h1 h2
section
variable {K : PySem.W.Frag} {T : Tb} {κ : Kap} {H : Hp}
theorem RepPK.length : ∀ {l : List (D × D)} {kvs : List (Key × V)}, RepPK K T κ H l kvs → l.length = kvs.length
  | [], _, h => by cases (show _ = [] from h); rfl
  | (k, d) :: r, _, ⟨kk, x, t, e, _, _, h⟩ => by subst e; rw [List.length_cons, List.length_cons, RepPK.length h]
theorem RepPT.length : ∀ {l : List (D × D)} {kvs : List (List Key × V)}, RepPT K T κ H l kvs → l.length = kvs.length
  | [], _, h => by cases (show _ = [] from h); rfl
  | (k, d) :: r, _, ⟨kk, x, t, e, _, _, h⟩ => by subst e; rw [List.length_cons, List.length_cons, RepPT.length h]
/-- what a look gives -/
def RepOpt (K : PySem.W.Frag) (T : Tb) (κ : Kap) (H : Hp) : Option D → Option V → Prop
  | none, none => True
  | some d, some v => Rep K T κ H d v
  | _, _ => False
theorem RepOpt.isSome {o : Option D} {p : Option V} (h : RepOpt K T κ H o p) : p.isSome = o.isSome := by cases o <;> cases p <;> first | rfl | exact h.elim
theorem RepPK.look {k : D} {kk : Key} (hk : keyK k = some kk) : ∀ {l : List (D × D)} {kvs : List (Key × V)}, RepPK K T κ H l kvs → RepOpt K T κ H (Fb.look k l) (valV kvs kk)
  | [], _, h => by cases (show _ = [] from h); exact trivial
  | (j, d) :: r, _, ⟨jj, x, t, e, hj, h1, h2⟩ => by
    subst e
    have q := keyEq_K hj hk
    unfold Fb.look
    by_cases z : jj = kk
    · rw [decide_eq_true z] at q
      rw [q, if_pos rfl, valV_pos z]
      exact h1
    · rw [decide_eq_false z] at q
      rw [q, if_neg Bool.false_ne_true, valV_neg z]
      exact RepPK.look hk h2
theorem RepPT.look {k : D} {kk : List Key} (hk : keyT k = some kk) : ∀ {l : List (D × D)} {kvs : List (List Key × V)}, RepPT K T κ H l kvs → RepOpt K T κ H (Fb.look k l) (valV kvs kk)
  | [], _, h => by cases (show _ = [] from h); exact trivial
  | (j, d) :: r, _, ⟨jj, x, t, e, hj, h1, h2⟩ => by
    subst e
    have q := keyEq_T hj hk
    unfold Fb.look
    by_cases z : jj = kk
    · rw [decide_eq_true z] at q
      rw [q, if_pos rfl, valV_pos z]
      exact h1
    · rw [decide_eq_false z] at q
      rw [q, if_neg Bool.false_ne_true, valV_neg z]
      exact RepPT.look hk h2
theorem atom_key {d : D} (h : isAtom d = true) : ∃ k, keyK d = some k := by
  cases d <;> first | (cases h; done) | exact ⟨_, rfl⟩
theorem atoms_key : ∀ {l : List D}, l.all isAtom = true → ∃ ks, keyKs l = some ks
  | [], _ => ⟨[], rfl⟩
  | d :: r, h => by
    rw [List.all_cons, Bool.and_eq_true] at h
    obtain ⟨k, e⟩ := atom_key h.1
    obtain ⟨ks, e2⟩ := atoms_key h.2
    exact ⟨k :: ks, by unfold keyKs; rw [e, e2]⟩
/-- a key's value -/
theorem key_rep {d : D} {k : Key} {x : V} (h : keyK d = some k) (r : Rep K T κ H d x) : x = kV k := by
  cases d <;> cases h <;> exact r
theorem keys_rep : ∀ {l : List D} {ks : List Key} {xs : List V}, keyKs l = some ks → RepL K T κ H l xs → xs = ks.map kV
  | [], _, _, h, r => by cases h; exact r
  | d :: l, _, _, h, ⟨x, t, e, r1, r2⟩ => by
    unfold keyKs at h
    split at h
    · rename_i k ts e1 e2
      cases h
      subst e
      rw [key_rep e1 r1, keys_rep e2 r2]
      rfl
    · cases h
/-! ### == of flat dicts -/
theorem flat_rep {d : D} {x : V} (h : isFlat d = true) (r : Rep K T κ H d x) : flatV x = true := by
  cases d <;> first | (cases h; done) | (cases (show _ = _ from r); rfl)
theorem flat_eq {d e : D} {x y : V} (h : isFlat d = true) (h' : isFlat e = true) (r : Rep K T κ H d x) (r' : Rep K T κ H e y) : eqV x y = eqD d e := by
  cases d <;> first | (cases h; done) | (cases (show _ = _ from r); cases e <;> first | (cases h'; done) | (cases (show _ = _ from r'); first | rfl | skip))
  rename_i i b
  show (i == (if b then 1 else 0)) = ((if b then 1 else 0) == i)
  exact Bool.eq_iff_iff.mpr ⟨fun z => by rw [beq_iff_eq] at z ⊢; exact z.symm, fun z => by rw [beq_iff_eq] at z ⊢; exact z.symm⟩
theorem look_flat {k : D} : ∀ {l : List (D × D)} {d : D}, (l.all fun p => isAtom p.1 && isFlat p.2) = true → Fb.look k l = some d → isFlat d = true
  | [], _, _, h => nomatch h
  | (j, u) :: r, d, hl, h => by
    rw [List.all_cons, Bool.and_eq_true, Bool.and_eq_true] at hl
    unfold Fb.look at h
    split at h
    · cases h; exact hl.1.2
    · exact look_flat hl.2 h
theorem flat_hits {A : Around} {s : Shared} {l' : List (D × D)} {kvs' : List (Key × V)} {vb : List (Key × Value)} (fl' : (l'.all fun p => isAtom p.1 && isFlat p.2) = true) (r' : RepPK K T κ H l' kvs') (rb : KV kvs' vb) :
    ∀ {l : List (D × D)} {kvs : List (Key × V)} {va : List (Key × Value)}, (l.all fun p => isAtom p.1 && isFlat p.2) = true → RepPK K T κ H l kvs → KV kvs va → PySem.W.KeqHits A s vb va (eqP l l')
  | [], _, _, _, r, ra => by
    cases (show _ = [] from r)
    cases ra
    exact .nil
  | (k, d) :: l, _, va, fl, ⟨kk, x, t, e, hk, h1, h2⟩, ra => by
    subst e
    rw [List.all_cons, Bool.and_eq_true, Bool.and_eq_true] at fl
    cases ra with
    | cons p q =>
      rename_i pv vt
      obtain ⟨pk, pv⟩ := pv
      obtain ⟨e1, e2⟩ := p
      have e1 : kk = pk := e1
      subst e1
      have lk := r'.look hk
      have vl := rb.val kk
      have rec_ := flat_hits (A := A) (s := s) fl' r' rb fl.2 h2 q
      show PySem.W.KeqHits A s vb ((kk, pv) :: vt) ((match Fb.look k l' with | some v' => eqD d v' | none => false) && eqP l l')
      cases z : Fb.look k l' with
      | none =>
        rw [z] at lk
        cases y : valV kvs' kk with
        | some v => rw [y] at lk; exact lk.elim
        | none =>
          rw [y] at vl
          exact .miss (RelO.none_of vl)
      | some d' =>
        rw [z] at lk
        cases y : valV kvs' kk with
        | none => rw [y] at lk; exact lk.elim
        | some v =>
          rw [y] at lk vl
          obtain ⟨u, eu, ru⟩ := RelO.some_of vl
          refine .hit eu ?_ rec_
          have fd' := look_flat fl' z
          show SeqAt.EqAt A s pv u (eqD d d')
          rw [← flat_eq fl.1.2 fd' h1 lk]
          exact eqAt_V e2 ru (flat_rep fl.1.2 h1) (flat_rep fd' lk)
end
/-! ### the operators == and != -/
section
variable {X : Cx} {T : Tb}
theorem okq_cases {d e : D} (h : okQ d e = true) : (isData 8 d = true ∧ isData 8 e = true) ∨ ∃ l m, d = .dic false l ∧ e = .dic false m ∧ (l.all fun p => isAtom p.1 && isFlat p.2) = true ∧ (m.all fun p => isAtom p.1 && isFlat p.2) = true := by
  unfold okQ at h
  rw [Bool.or_eq_true, Bool.and_eq_true, Bool.and_eq_true] at h
  rcases h with h | ⟨h1, h2⟩
  · exact .inl h
  · refine .inr ?_
    cases d with
    | dic t l =>
      cases t with
      | true => exact nomatch h1
      | false =>
        cases e with
        | dic t m =>
          cases t with
          | true => exact nomatch h2
          | false => exact ⟨l, m, rfl, rfl, h1, h2⟩
        | _ => exact nomatch h2
    | _ => exact nomatch h1
theorem o_eq (hu : X.A.units + 64 < cLine) : OpR X (compareOp .Eq) (rC X.K T (cmpD .eq)) := by
  intro pins s σ H x y v u Q I rx ry ⟨κ, st, d, e, σ', W, er, n1, n2, a⟩
  obtain ⟨ok, a⟩ := stuck_ifB (m := ret (eqD d e)) a
  have fin := After.retd er a
  rcases okq_cases ok with ⟨h1, h2⟩ | ⟨l, m, rfl, rfl, f1, f2⟩
  · refine op_eqD hu pins s σ H _ _ v u Q I rx ry ⟨toPy d, toPy e, now_dp h1 n1, now_dp h2 n2, shaped_py h1 (by decide), shaped_py h2 (by decide), ?_⟩
    rw [eqv_py d e 8 8 h1 h2]
    exact fin
  · obtain ⟨p, ks, rfl, hp, r1⟩ := n1
    obtain ⟨q, ls, rfl, hq, r2⟩ := n2
    cases rx
    cases ry
    obtain ⟨_, ya, va, ra, da⟩ := dk_rd I.hok hp
    obtain ⟨_, yb, vb, rb, db⟩ := dk_rd I.hok hq
    refine PySem.W.keq_eq (knd := mixKind X.prog X.w) (r := eqP l m) ya yb da db (by omega) (fun _ => flat_hits f2 r2 rb f1 r1 ra) (fin_bl I fin ?_)
    show (l.length == m.length && eqP l m) = _
    rw [r1.length, r2.length, ra.length, rb.length]
theorem o_ne (hu : X.A.units + 64 < cLine) : OpR X (compareOp .NotEq) (rC X.K T (cmpD .ne)) := by
  intro pins s σ H x y v u Q I rx ry ⟨κ, st, d, e, σ', W, er, n1, n2, a⟩
  obtain ⟨ok, a⟩ := stuck_ifB (m := ret (!eqD d e)) a
  have fin := After.retd er a
  rcases okq_cases ok with ⟨h1, h2⟩ | ⟨l, m, rfl, rfl, f1, f2⟩
  · refine op_neD hu pins s σ H _ _ v u Q I rx ry ⟨toPy d, toPy e, now_dp h1 n1, now_dp h2 n2, shaped_py h1 (by decide), shaped_py h2 (by decide), ?_⟩
    rw [eqv_py d e 8 8 h1 h2]
    exact fin
  · obtain ⟨p, ks, rfl, hp, r1⟩ := n1
    obtain ⟨q, ls, rfl, hq, r2⟩ := n2
    cases rx
    cases ry
    obtain ⟨_, ya, va, ra, da⟩ := dk_rd I.hok hp
    obtain ⟨_, yb, vb, rb, db⟩ := dk_rd I.hok hq
    refine PySem.W.keq_ne (knd := mixKind X.prog X.w) (r := eqP l m) ya yb da db (by omega) (fun _ => flat_hits f2 r2 rb f1 r1 ra) (fin_bl I fin ?_)
    show (!(l.length == m.length && eqP l m)) = _
    rw [r1.length, r2.length, ra.length, rb.length]
    all_goals first | rfl | (cases (va.length == vb.length) <;> rfl)
theorem o_lt : OpR X (compareOp .Lt) (rC X.K T (cmpD .lt)) := by
  intro pins s σ H x y v u Q I rx ry ⟨κ, st, d, e, σ', W, er, n1, n2, a⟩
  cases d <;> first | exact a.elim | (cases e <;> first | exact a.elim | (cases n1; cases n2; exact op_lt pins s σ H _ _ v u Q I rx ry ⟨_, _, rfl, rfl, After.retd er a⟩))
theorem o_le : OpR X (compareOp .LtE) (rC X.K T (cmpD .le)) := by
  intro pins s σ H x y v u Q I rx ry ⟨κ, st, d, e, σ', W, er, n1, n2, a⟩
  cases d <;> first | exact a.elim | (cases e <;> first | exact a.elim | (cases n1; cases n2; exact op_le pins s σ H _ _ v u Q I rx ry ⟨_, _, rfl, rfl, After.retd er a⟩))
theorem o_gt : OpR X (compareOp .Gt) (rC X.K T (cmpD .gt)) := by
  intro pins s σ H x y v u Q I rx ry ⟨κ, st, d, e, σ', W, er, n1, n2, a⟩
  cases d <;> first | exact a.elim | (cases e <;> first | exact a.elim | (cases n1; cases n2; exact op_gt pins s σ H _ _ v u Q I rx ry ⟨_, _, rfl, rfl, After.retd er a⟩))
theorem o_ge : OpR X (compareOp .GtE) (rC X.K T (cmpD .ge)) := by
  intro pins s σ H x y v u Q I rx ry ⟨κ, st, d, e, σ', W, er, n1, n2, a⟩
  cases d <;> first | exact a.elim | (cases e <;> first | exact a.elim | (cases n1; cases n2; exact op_ge pins s σ H _ _ v u Q I rx ry ⟨_, _, rfl, rfl, After.retd er a⟩))
end
end Fb
/-! FbU -/
/-! FbU: in, is, tests, subscripts, slices. -/
namespace Fb
open PySem PySem.Spec PyProof.Rows L2
section
variable {X : Cx} {T : Tb} {K : PySem.W.Frag} {κ : Kap} {H : Hp} {st : Sto} {W : WX}
/-- what a dict holds at a key -/
theorem now_get {t : Bool} {l : List (D × D)} {k : D} {x y : V} (n : Now K T κ H (.dic t l) x) (r : Now K T κ H k y) (hk : isKey t k = true) : ∃ a o, x = .ref a ∧ DGet H a y o ∧ RepOpt K T κ H (look k l) o := by
  cases t with
  | false =>
    obtain ⟨a, kvs, e, h, rl⟩ := n
    obtain ⟨kk, e2⟩ := atom_key (show isAtom k = true from hk)
    have ey : y = kV kk := by cases k <;> cases e2 <;> exact r
    exact ⟨a, _, e, .inl ⟨kvs, kk, h, ey, rfl⟩, rl.look e2⟩
  | true =>
    obtain ⟨a, kvs, e, h, rl⟩ := n
    cases k <;> first | (cases hk; done) | skip
    rename_i kl
    have hk : (kl.all isAtom && !kl.isEmpty) = true := hk
    rw [Bool.and_eq_true] at hk
    obtain ⟨ks, e2⟩ := atoms_key hk.1
    obtain ⟨b, xs, ey, tp, r2⟩ := r
    have ex := keys_rep e2 r2
    rcases tp with tp | tp
    · exact ⟨a, _, e, .inr ⟨kvs, ks, b, h, ey, by rw [← ex]; exact tp.2, rfl⟩, rl.look (k := .tup kl) e2⟩
    · rw [tp.1] at r2
      cases kl with
      | nil => exact nomatch hk.2
      | cons d r => obtain ⟨_, _, z, _⟩ := r2; cases z
theorem o_in (hu : X.A.units + 65 < cLine) : OpR X (compareOp .In) (rC X.K T (cmpD .inn)) := by
  intro pins s σ H x y v u Q I rx ry ⟨κ, st, d, e, σ', W, er, n1, n2, a⟩
  replace a : After X.K T W σ' κ H (inD d e st) _ := a
  cases e <;> first | exact a.elim | skip
  · -- text
    rename_i z
    cases d <;> first | exact a.elim | skip
    rename_i w
    obtain ⟨h1, a⟩ := stuck_ifB a
    have fin := After.retd er a
    cases n1
    cases n2
    have ew : w = ⟨#[w.cps.getD 0 0]⟩ := by
      obtain ⟨⟨l⟩⟩ := w
      match l, h1 with
      | [c], _ => rfl
    rw [ew] at rx
    refine op_in_sign pins s σ H _ _ v u Q I rx ry ⟨_, z, rfl, rfl, ?_⟩
    have e2 : decide (w.cps.getD 0 0 ∈ z.cps.toList) = z.cps.toList.contains (w.cps.getD 0 0) := by rw [Bool.eq_iff_iff]; simp
    rw [e2]
    exact fin
  · rename_i l
    obtain ⟨h, a⟩ := stuck_ifB a
    have fin := After.retd er a
    rw [Bool.and_eq_true, List.all_eq_true] at h
    obtain ⟨as, r1⟩ := Dp.reads I _ x v (now_dp h.1 n1) rx
    obtain ⟨bs, r2⟩ := Dp.reads I (.tuple (toPys l)) y u (now_dp (d := .tup l) (n := 8) (by show l.all (isData 7) = true; rw [List.all_eq_true]; exact h.2) n2) ry
    refine SeqAt.in_tuple_reads r2 r1 (lays_py l 7 h.2) (lay_py d 8 h.1) (PyProof.Rows.room_in_shaped (shaped_py h.1 (by decide)) hu) ⟨.bl _, H, I, rfl, ?_⟩
    rw [inL_py h.1 l h.2]
    exact fin
  · rename_i l
    obtain ⟨h, a⟩ := stuck_ifB a
    have fin := After.retd er a
    rw [Bool.and_eq_true, List.all_eq_true] at h
    obtain ⟨as, r1⟩ := Dp.reads I _ x v (now_dp h.1 n1) rx
    obtain ⟨bs, r2⟩ := Dp.reads I (.list (toPys l)) y u (now_dp (d := .lst l) (n := 8) (by show l.all (isData 7) = true; rw [List.all_eq_true]; exact h.2) n2) ry
    refine SeqAt.in_list_reads r2 r1 (lays_py l 7 h.2) (lay_py d 8 h.1) (PyProof.Rows.room_in_shaped (shaped_py h.1 (by decide)) hu) ⟨.bl _, H, I, rfl, ?_⟩
    rw [inL_py h.1 l h.2]
    exact fin
  · rename_i t l
    obtain ⟨h, a⟩ := stuck_ifB a
    have fin := After.retd er a
    obtain ⟨p, o, rfl, g, ro⟩ := now_get n2 n1 h
    cases ry
    refine d_in (by omega) I g rx fun s' I' => ⟨.bl _, H, I', rfl, ?_⟩
    rw [ro.isSome]
    exact fin
theorem o_nin (hu : X.A.units + 65 < cLine) : OpR X (compareOp .NotIn) (rC X.K T (cmpD .nin)) := by
  intro pins s σ H x y v u Q I rx ry ⟨κ, st, d, e, σ', W, er, n1, n2, a⟩
  replace a : After X.K T W σ' κ H (bnd (inD d e) (fun b => ret (!b)) st) _ := a
  cases e <;> first | exact a.elim | skip
  · rename_i z
    cases d <;> first | exact a.elim | skip
    rename_i w
    obtain ⟨h1, a⟩ := stuck_if a
    have fin := After.retd er a
    cases n1
    cases n2
    have ew : w = ⟨#[w.cps.getD 0 0]⟩ := by
      obtain ⟨⟨l⟩⟩ := w
      match l, h1 with
      | [c], _ => rfl
    rw [ew] at rx
    refine op_notIn_sign pins s σ H _ _ v u Q I rx ry ⟨_, z, rfl, rfl, ?_⟩
    have e2 : decide (w.cps.getD 0 0 ∈ z.cps.toList) = z.cps.toList.contains (w.cps.getD 0 0) := by rw [Bool.eq_iff_iff]; simp
    rw [e2]
    exact fin
  · rename_i l
    obtain ⟨h, a⟩ := stuck_if a
    have fin := After.retd er a
    rw [Bool.and_eq_true, List.all_eq_true] at h
    obtain ⟨as, r1⟩ := Dp.reads I _ x v (now_dp h.1 n1) rx
    obtain ⟨bs, r2⟩ := Dp.reads I (.tuple (toPys l)) y u (now_dp (d := .tup l) (n := 8) (by show l.all (isData 7) = true; rw [List.all_eq_true]; exact h.2) n2) ry
    refine SeqAt.notIn_tuple_reads r2 r1 (lays_py l 7 h.2) (lay_py d 8 h.1) (PyProof.Rows.room_in_shaped (shaped_py h.1 (by decide)) hu) ⟨.bl _, H, I, rfl, ?_⟩
    rw [inL_py h.1 l h.2]
    exact fin
  · rename_i l
    obtain ⟨h, a⟩ := stuck_if a
    have fin := After.retd er a
    rw [Bool.and_eq_true, List.all_eq_true] at h
    obtain ⟨as, r1⟩ := Dp.reads I _ x v (now_dp h.1 n1) rx
    obtain ⟨bs, r2⟩ := Dp.reads I (.list (toPys l)) y u (now_dp (d := .lst l) (n := 8) (by show l.all (isData 7) = true; rw [List.all_eq_true]; exact h.2) n2) ry
    refine SeqAt.notIn_list_reads r2 r1 (lays_py l 7 h.2) (lay_py d 8 h.1) (PyProof.Rows.room_in_shaped (shaped_py h.1 (by decide)) hu) ⟨.bl _, H, I, rfl, ?_⟩
    rw [inL_py h.1 l h.2]
    exact fin
  · rename_i t l
    obtain ⟨h, a⟩ := stuck_if a
    have fin := After.retd er a
    obtain ⟨p, o, rfl, g, ro⟩ := now_get n2 n1 h
    cases ry
    refine d_notIn (by omega) I g rx fun s' I' => ⟨.bl _, H, I', rfl, ?_⟩
    rw [ro.isSome]
    exact fin
theorem now_non {d : D} {x : V} (n : Now K T κ H d x) : decide (x = .non) = isNonD d := by
  cases d with
  | non => cases (show _ = _ from n); rfl
  | bl b => cases (show _ = _ from n); rfl
  | int b => cases (show _ = _ from n); rfl
  | str b => cases (show _ = _ from n); rfl
  | tup l => obtain ⟨_, _, rfl, _⟩ := n; rfl
  | lst l => obtain ⟨_, _, rfl, _⟩ := n; rfl
  | arr l => obtain ⟨_, rfl, _⟩ := n; rfl
  | dic t l => cases t <;> (obtain ⟨_, _, rfl, _⟩ := n; rfl)
  | ins c l => obtain ⟨_, _, _, _, _, rfl, _⟩ := n; rfl
theorem now_non2 {d : D} {x : V} (n : Now K T κ H d x) : (!decide (x = .non)) = !isNonD d := by
  rw [now_non n]
theorem o_isN : OpR X (compareOp .Is) (rC X.K T (cmpD .isN)) := by
  intro pins s σ H x y v u Q I rx ry ⟨κ, st, d, e, σ', W, er, n1, n2, a⟩
  cases e <;> first | exact a.elim | skip
  have fin := After.retd er a
  cases n2
  exact op_isN pins s σ H _ _ v u Q I rx ry ⟨rfl, by rw [now_non n1]; exact fin⟩
theorem o_notN : OpR X (compareOp .IsNot) (rC X.K T (cmpD .notN)) := by
  intro pins s σ H x y v u Q I rx ry ⟨κ, st, d, e, σ', W, er, n1, n2, a⟩
  cases e <;> first | exact a.elim | skip
  have fin := After.retd er a
  cases n2
  exact op_notN pins s σ H _ _ v u Q I rx ry ⟨rfl, by rw [now_non2 n1]; exact fin⟩
theorem o_isB : OpR X (compareOp .Is) (rC X.K T (cmpD .isB)) := by
  intro pins s σ H x y v u Q I rx ry ⟨κ, st, d, e, σ', W, er, n1, n2, a⟩
  cases d <;> first | exact a.elim | skip
  cases e <;> first | exact a.elim | skip
  rename_i b c
  have fin := After.retd er a
  cases n1
  cases n2
  refine op_is_bl pins s σ H _ _ v u Q I rx ry ⟨b, c, rfl, rfl, ?_⟩
  have e2 : decide (b = c) = (b == c) := by rw [Bool.eq_iff_iff]; simp
  rw [e2]
  exact fin
theorem o_notB : OpR X (compareOp .IsNot) (rC X.K T (cmpD .notB)) := by
  intro pins s σ H x y v u Q I rx ry ⟨κ, st, d, e, σ', W, er, n1, n2, a⟩
  cases d <;> first | exact a.elim | skip
  cases e <;> first | exact a.elim | skip
  rename_i b c
  have fin := After.retd er a
  cases n1
  cases n2
  refine op_isnot_bl pins s σ H _ _ v u Q I rx ry ⟨b, c, rfl, rfl, ?_⟩
  have e2 : (!decide (b = c)) = (b != c) := by cases b <;> cases c <;> rfl
  rw [e2]
  exact fin
end
/-! ### the forms -/
section
variable {X : Cx} {T : Tb} {W : WX} {pos : Pos} {a b c : Expr} {f g h : DE} {t t' : DT} {rest : List Expr}
/-- the operands of a comparison -/
theorem tT2 {σ : L2.St} {H : Hp} {k : Val → Val → M Bool} {Q : Bool → Hp → Prop} (q : tT X.K T W (fun e => bnd (f e) fun v => bnd (g e) fun u => k v u) σ H Q) :
    tE X.K T W f σ H fun x H1 => tE X.K T W g σ H1 fun y H2 => ∃ κ st env v u, Cf X.K T σ κ H2 st env ∧ RepVal X.K T κ H2 v x ∧ RepVal X.K T κ H2 u y ∧ After X.K T W σ κ H2 (k v u st) fun b _ _ H' => Q b H' := by
  obtain ⟨κ, st, env, c, a⟩ := q
  refine ⟨κ, st, env, c, a.bind.imp fun v st1 κ1 H1 s1 e1 a1 x rx => ⟨κ1, st1, env, c.step s1 e1, a1.bind.imp fun u st2 κ2 H2 s2 e2 a2 y ry => ?_⟩⟩
  exact ⟨κ2, st2, env, v, u, (c.step s1 e1).step s2 e2, RepVal.step s2 v x rx, ry, a2⟩
/-- a tE is monotone in what is wanted -/
theorem tE_mono {σ : L2.St} {H : Hp} {Q Q' : VK} (h : tE X.K T W f σ H Q) (i : ∀ v H', Q v H' → Q' v H') : tE X.K T W f σ H Q' := by
  obtain ⟨κ, st, env, c, a⟩ := h
  exact ⟨κ, st, env, c, a.imp fun v _ κ' H' _ _ q u r => i u H' (q u r)⟩
theorem tT_mono {σ : L2.St} {H : Hp} {Q Q' : Bool → Hp → Prop} (h : tT X.K T W t σ H Q) (i : ∀ v H', Q v H' → Q' v H') : tT X.K T W t σ H Q' := by
  obtain ⟨κ, st, env, c, a⟩ := h
  exact ⟨κ, st, env, c, a.imp fun v _ κ' H' _ _ q => i v H' q⟩
theorem e_bin {op : Operator} {k : D → D → M D} (ho : OpR X (binaryOp op) (rD X.K T k)) (ha : PE X a (tE X.K T W f)) (hb : PE X b (tE X.K T W g)) :
    PE X (.BinOp a op b pos) (tE X.K T W fun e => bnd (f e) fun v => bnd (g e) fun u => opD k v u) := pe_imp (pe_op ho ha hb) fun σ H Q q =>
  tE_mono (tE2 q) fun x H1 q1 => tE_mono q1 fun y H2 ⟨κ, st, env, v, u, c, r1, r2, a⟩ => After.opD c.rel r1 r2 a
theorem e_cmp {op : CmpOp} {k : D → D → M Bool} (ho : OpR X (compareOp op) (rC X.K T k)) (ha : PE X a (tE X.K T W f)) (hb : PE X b (tE X.K T W g)) (hm : behindInMarks op b = false) :
    PE X (.Compare a [op] [b] pos) (tE X.K T W (tV fun e => bnd (f e) fun v => bnd (g e) fun u => opB k v u)) := pe_imp (pe_cmpR ho ha hb hm) fun σ H Q q => by
  have q2 : tT X.K T W (fun e => bnd (f e) fun v => bnd (g e) fun u => opB k v u) σ H fun b H' => Q (.bl b) H' := by
    obtain ⟨κ, st, env, c, a⟩ := q
    exact ⟨κ, st, env, c, a.bind.imp fun b st1 κ1 H1 s1 e1 a1 => After.retd e1 a1 _ rfl⟩
  refine tE_mono (tT2 q2) fun x H1 q1 => tE_mono q1 fun y H2 ⟨κ, st, env, v, u, c, r1, r2, a⟩ => ?_
  obtain ⟨κ', st', dx, dy, σ', W', e1, n1, n2, a2⟩ := After.opB c.rel r1 r2 a
  exact ⟨κ', st', dx, dy, σ', W', e1, n1, n2, a2.imp fun b _ _ _ _ _ ⟨b', e, q⟩ => by cases e; exact q⟩
theorem t_cmp {op : CmpOp} {k : D → D → M Bool} (ho : OpR X (compareOp op) (rC X.K T k)) (ha : PE X a (tE X.K T W f)) (hb : PE X b (tE X.K T W g)) (hm : behindInMarks op b = false) :
    PT X (.Compare a [op] [b] pos) (tT X.K T W fun e => bnd (f e) fun v => bnd (g e) fun u => opB k v u) := pt_imp (pt_cmpR ho ha hb hm) fun σ H Q q =>
  tE_mono (tT2 q) fun x H1 q1 => tE_mono q1 fun y H2 ⟨κ, st, env, v, u, c, r1, r2, a⟩ => After.opB c.rel r1 r2 a
theorem t_val (ha : PE X a (tE X.K T W f)) (he : ∀ whole, isTrue a X.env whole = (do let v ← whole; standAt a.pos; holding [v] (truthy v)) := by intro _; rfl) : PT X a (tT X.K T W (vT f)) := pt_imp (pt_val ha he) fun σ H Q q => by
  obtain ⟨κ, st, env, c, a⟩ := q
  refine ⟨κ, st, env, c, a.bind.imp fun v st1 κ1 H1 s1 e1 a1 u r => ?_⟩
  cases v with
  | cell k => exact a1.elim
  | d x =>
    cases x <;> first | exact a1.elim | skip
    rename_i b
    cases (show _ = _ from r)
    exact ⟨b, rfl, After.retd e1 a1⟩
theorem t_not (ha : PT X a (tT X.K T W t)) : PT X (.UnaryOp .Not a pos) (tT X.K T W (tNot t)) := pt_imp (pt_not ha) fun σ H Q ⟨κ, st, env, c, a⟩ => ⟨κ, st, env, c, a.bind.imp fun b st1 κ1 H1 s1 e1 a1 => After.retd e1 a1⟩
theorem w_and1 (ha : PT X a (tT X.K T W t)) : PW X (.BoolOp .And [a] pos) (tT X.K T W t) := pw_and1 ha
theorem w_or1 (ha : PT X a (tT X.K T W t)) : PW X (.BoolOp .Or [a] pos) (tT X.K T W t) := pw_or1 ha
theorem w_and (ha : PT X a (tT X.K T W t)) (hb : PW X (.BoolOp .And (b :: rest) pos) (tT X.K T W t')) : PW X (.BoolOp .And (a :: b :: rest) pos) (tT X.K T W (tAnd t t')) := pw_imp (pw_and ha hb) fun σ H Q ⟨κ, st, env, c, a⟩ =>
  ⟨κ, st, env, c, a.bind.imp fun r st1 κ1 H1 s1 e1 a1 => by
    cases r with
    | true => exact iteT ⟨κ1, st1, env, c.step s1 e1, a1⟩
    | false => exact iteF (After.retd e1 a1)⟩
theorem w_or (ha : PT X a (tT X.K T W t)) (hb : PW X (.BoolOp .Or (b :: rest) pos) (tT X.K T W t')) : PW X (.BoolOp .Or (a :: b :: rest) pos) (tT X.K T W (tOr t t')) := pw_imp (pw_or ha hb) fun σ H Q ⟨κ, st, env, c, a⟩ =>
  ⟨κ, st, env, c, a.bind.imp fun r st1 κ1 H1 s1 e1 a1 => by
    cases r with
    | true => exact iteT (After.retd e1 a1)
    | false => exact iteF ⟨κ1, st1, env, c.step s1 e1, a1⟩⟩
theorem t_w (h : PW X a (tT X.K T W t)) : PT X a (tT X.K T W t) := h.pt
/-- and, or as values: bools -/
def vAnd (f g : DE) : DE := fun e => bnd (f e) fun v => bnd (asB v) fun b => if b then g e else ret (.d (.bl false))
def vOr (f g : DE) : DE := fun e => bnd (f e) fun v => bnd (asB v) fun b => if b then ret (.d (.bl true)) else g e
theorem After.asBd {β : Type} {σ : L2.St} {κ : Kap} {H : Hp} {st : Sto} {v : Val} {x : V} {k : Bool → M β} {P : β → Sto → Kap → Hp → Prop} (rv : RepVal X.K T κ H v x) (h : After X.K T W σ κ H (bnd (asB v) k st) P) :
    ∃ b, x = .bl b ∧ After X.K T W σ κ H (k b st) P := by
  cases v with
  | cell i => exact h.elim
  | d y =>
    cases y <;> first | exact h.elim | skip
    rename_i b
    exact ⟨b, rv, h⟩
theorem e_one {op} (h : PE X a (tE X.K T W f)) : PE X (.BoolOp op [a] pos) (tE X.K T W f) := pe_one h
theorem e_and (ha : PE X a (tE X.K T W f)) (hb : PE X (.BoolOp .And (b :: rest) pos) (tE X.K T W g)) : PE X (.BoolOp .And (a :: b :: rest) pos) (tE X.K T W (vAnd f g)) := pe_imp (pe_and ha hb) fun σ H Q ⟨κ, st, env, c, a⟩ =>
  ⟨κ, st, env, c, a.bind.imp fun v st1 κ1 H1 s1 e1 a1 x r => by
    obtain ⟨b, e, a2⟩ := After.asBd r a1
    refine ⟨b, e, ?_⟩
    cases b with
    | true => exact iteT ⟨κ1, st1, env, c.step s1 e1, a2⟩
    | false => exact iteF (After.retd e1 a2 _ rfl)⟩
theorem e_or (ha : PE X a (tE X.K T W f)) (hb : PE X (.BoolOp .Or (b :: rest) pos) (tE X.K T W g)) : PE X (.BoolOp .Or (a :: b :: rest) pos) (tE X.K T W (vOr f g)) := pe_imp (pe_or ha hb) fun σ H Q ⟨κ, st, env, c, a⟩ =>
  ⟨κ, st, env, c, a.bind.imp fun v st1 κ1 H1 s1 e1 a1 x r => by
    obtain ⟨b, e, a2⟩ := After.asBd r a1
    refine ⟨b, e, ?_⟩
    cases b with
    | true => exact iteT (After.retd e1 a2 _ rfl)
    | false => exact iteF ⟨κ1, st1, env, c.step s1 e1, a2⟩⟩
def vNot (f : DE) : DE := fun e => bnd (f e) fun v => bnd (asB v) fun b => ret (.d (.bl (!b)))
theorem e_not (ha : PE X a (tE X.K T W f)) : PE X (.UnaryOp .Not a pos) (tE X.K T W (vNot f)) := pe_imp (pe_not ha) fun σ H Q ⟨κ, st, env, c, a⟩ =>
  ⟨κ, st, env, c, a.bind.imp fun v st1 κ1 H1 s1 e1 a1 x r => by
    obtain ⟨b, e, a2⟩ := After.asBd r a1
    exact ⟨b, e, After.retd e1 a2 _ rfl⟩⟩
theorem e_if (hc : PT X c (tT X.K T W t)) (ha : PE X a (tE X.K T W f)) (hb : PE X b (tE X.K T W g)) : PE X (.IfExp c a b pos) (tE X.K T W (dIf t f g)) := pe_imp (pe_ifExp hc ha hb) fun σ H Q ⟨κ, st, env, c, a⟩ =>
  ⟨κ, st, env, c, a.bind.imp fun r st1 κ1 H1 s1 e1 a1 => by
    cases r with
    | true => exact iteT ⟨κ1, st1, env, c.step s1 e1, a1⟩
    | false => exact iteF ⟨κ1, st1, env, c.step s1 e1, a1⟩⟩
theorem e_neg (ha : PE X a (tE X.K T W f)) : PE X (.UnaryOp .USub a pos) (tE X.K T W (dNeg f)) := pe_imp (pe_un un_neg ha) fun σ H Q ⟨κ, st, env, c, a⟩ =>
  ⟨κ, st, env, c, a.bind.imp fun v st1 κ1 H1 s1 e1 a1 x r => by
    obtain ⟨d, rd, a2⟩ := After.plaind r a1
    cases d <;> first | exact a2.elim | skip
    rename_i i
    exact ⟨i, rd, After.retd e1 a2 _ rfl⟩⟩
end
end Fb
/-! FbV -/
/-! FbV: chains, subscripts, slices, attributes. -/
namespace Fb
open PySem PySem.Spec PyProof.Rows L2
section
variable {X : Cx} {T : Tb} {W : WX} {pos p2 : Pos} {a b c : Expr} {f g h : DE} {σ : L2.St} {κ : Kap} {H : Hp} {st : Sto}
theorem chain_imp {op op' : CmpOp} {k k' : D → D → M Bool} {Q : Bool → Hp → Prop} (q : tT X.K T W (fun e => bnd (f e) fun v => bnd (g e) fun u => bnd (opB k v u) fun r => if r then bnd (h e) fun w => opB k' u w else ret false) σ H Q) :
    L2.tChain (rC X.K T k) (rC X.K T k') (tE X.K T W f) (tE X.K T W g) (tE X.K T W h) σ H fun z H' => ∃ r, z = .bl r ∧ Q r H' := by
  obtain ⟨κ, st, env, c, a⟩ := q
  refine ⟨κ, st, env, c, a.bind.imp fun v st1 κ1 H1 s1 e1 a1 x rx => ⟨κ1, st1, env, c.step s1 e1, a1.bind.imp fun u st2 κ2 H2 s2 e2 a2 y ry => ?_⟩⟩
  have rx2 := RepVal.step s2 v x rx
  obtain ⟨dx, n1, a3, _⟩ := After.snapd (k := fun x => bnd (snap u) fun y => k x y) e2 rx2 (a2.bind)
  obtain ⟨dy, n2, a4, _⟩ := After.snapd e2 ry a3
  refine ⟨κ2, st2, dx, dy, σ, W, e2, n1, n2, a4.imp fun r st3 κ3 H3 s3 e3 a5 => ⟨r, rfl, ?_⟩⟩
  cases r with
  | false => exact iteF ⟨false, rfl, After.retd e3 a5⟩
  | true =>
    refine iteT ⟨κ3, st3, env, ((c.step s1 e1).step s2 e2).step s3 e3, a5.bind.imp fun w st4 κ4 H4 s4 e4 a6 z rz => ?_⟩
    exact After.opB e4 (RepVal.step s4 u y (RepVal.step s3 u y ry)) rz a6
theorem t_chain {op op' : CmpOp} {k k' : D → D → M Bool} (ho : OpR X (compareOp op) (rC X.K T k)) (ho' : OpR X (compareOp op') (rC X.K T k')) (ha : PE X a (tE X.K T W f)) (hb : PE X b (tE X.K T W g)) (hc : PE X c (tE X.K T W h))
    (hm : lastMarks [op, op'] [b, c] = false := by with_unfolding_all rfl) : PT X (.Compare a [op, op'] [b, c] pos) (tT X.K T W fun e => bnd (f e) fun v => bnd (g e) fun u => bnd (opB k v u) fun r => if r then bnd (h e) fun w => opB k' u w else ret false) :=
  pt_imp (pt_chain ho ho' ha hb hc hm) fun σ H Q q => chain_imp (op := op) (op' := op') q
theorem e_chain {op op' : CmpOp} {k k' : D → D → M Bool} (ho : OpR X (compareOp op) (rC X.K T k)) (ho' : OpR X (compareOp op') (rC X.K T k')) (ha : PE X a (tE X.K T W f)) (hb : PE X b (tE X.K T W g)) (hc : PE X c (tE X.K T W h))
    (hm : lastMarks [op, op'] [b, c] = false := by with_unfolding_all rfl) : PE X (.Compare a [op, op'] [b, c] pos) (tE X.K T W (tV fun e => bnd (f e) fun v => bnd (g e) fun u => bnd (opB k v u) fun r => if r then bnd (h e) fun w => opB k' u w else ret false)) :=
  pe_imp (pe_chain ho ho' ha hb hc hm) fun σ H Q q => by
    have q2 : tT X.K T W (fun e => bnd (f e) fun v => bnd (g e) fun u => bnd (opB k v u) fun r => if r then bnd (h e) fun w => opB k' u w else ret false) σ H fun b H' => Q (.bl b) H' := by
      obtain ⟨κ, st, env, c, a⟩ := q
      exact ⟨κ, st, env, c, a.bind.imp fun b st1 κ1 H1 s1 e1 a1 => After.retd e1 a1 _ rfl⟩
    have q3 := chain_imp (op := op) (op' := op') q2
    refine tE_mono q3 fun x H1 q4 => tE_mono q4 fun y H2 ⟨κ, st, dx, dy, σ', W', e1, n1, n2, a1⟩ => ⟨κ, st, dx, dy, σ', W', e1, n1, n2, a1.imp fun r st3 κ3 H3 s3 e3 ⟨r', er, q5⟩ => ⟨r', er, ?_⟩⟩
    cases r' with
    | false =>
      obtain ⟨r2, e2, q6⟩ := q5
      cases e2
      exact q6
    | true =>
      refine tE_mono (X := X) q5 fun w H4 ⟨κ, st, dx, dy, σ', W', e1, n1, n2, a1⟩ => ⟨κ, st, dx, dy, σ', W', e1, n1, n2, a1.imp fun r st3 κ3 H3 s3 e3 ⟨r2, e2, q6⟩ => by cases e2; exact q6⟩
/-! ### subscripts -/
theorem RepL.at {K : PySem.W.Frag} {l : List D} {xs : List V} {i : Int} {d : D} (r : RepL K T κ H l xs) (h : L2.atI l i = some d) : ∃ x, L2.atI xs i = some x ∧ Rep K T κ H d x := by
  unfold L2.atI at h ⊢
  rw [← RepL.length r]
  cases q : ixN l.length i with
  | none => rw [q] at h; cases h
  | some j =>
    rw [q] at h
    exact r.get h
theorem After.optd {α β : Type} {K : PySem.W.Frag} {W : WX} {o : Option α} {k : α → M β} {P : β → Sto → Kap → Hp → Prop} (h : After K T W σ κ H (bnd (optM o) k st) P) : ∃ x, o = some x ∧ After K T W σ κ H (k x st) P := by
  cases o with
  | none => exact h.elim
  | some x => exact ⟨x, rfl, h⟩
/-- d[k] -/
def rIxD : R2 := fun x y H Q => ∃ a v, x = .ref a ∧ DGet H a y (some v) ∧ Q v H
theorem ix_dict (hu : X.A.units + 1 < cLine) : IxR X rIxD := by
  intro value slice pins s σ H x y v u Q I rx ry ⟨a, z, ex, g, q⟩ hs
  subst ex
  obtain rfl : v = Value.ref a := rx
  exact tail_any (dict_typeIs I g) PySem.F.slot_dict_getitem.lookup (d_getItem hu I g ry fun w' s' I' r' => ⟨z, H, I', r', q⟩) hs
theorem ix_all (hu : X.A.units + 1 < cLine) : IxR X (rD X.K T ixD) := by
  intro value slice pins s σ H x y v u Q I rx ry ⟨κ, st, d, e, σ', W, er, n1, n2, a⟩ hs
  have key : ∀ {t : Bool} {l : List (D × D)}, d = .dic t l → After X.K T W σ' κ H (bnd (if isKey t e then optM (look e l) else stk) (fun z => ret (.d z)) st) (PV X.K T Q) →
      wpAny (model X.prog X.w) X.A (subscriptTail value slice v u) (EP X pins σ Q) X.xe s := by
    intro t l ed a
    subst ed
    obtain ⟨hk, a⟩ := stuck_if a
    obtain ⟨r, el, a⟩ := After.optd a
    obtain ⟨p, o, ex, g, ro⟩ := now_get n1 n2 hk
    rw [el] at ro
    cases o with
    | none => exact ro.elim
    | some w => exact ix_dict hu value slice pins s σ H x y v u Q I rx ry ⟨p, w, ex, g, After.retd er a w ro⟩ hs
  cases d <;> first | exact a.elim | skip
  · -- text
    rename_i z
    cases e <;> first | exact a.elim | skip
    rename_i i
    obtain ⟨hz, a⟩ := stuck_if a
    cases q : L2.atI z.cps.toList i with
    | none => rw [q] at a; exact a.elim
    | some c =>
      rw [q] at a
      cases n1
      cases n2
      exact ix_str value slice pins s σ H _ _ v u Q I rx ry ⟨z, i, c, rfl, rfl, by rw [sizeLine_eq]; omega, q, After.retd er a _ rfl⟩ hs
  · rename_i l
    cases e <;> first | exact a.elim | skip
    rename_i i
    obtain ⟨w, ew, a⟩ := After.optd a
    cases n2
    obtain ⟨p, xs, ex, hp, r⟩ := n1
    obtain ⟨x', ex', rx'⟩ := RepL.at r ew
    exact ix_tup value slice pins s σ H _ _ v u Q I rx ry ⟨p, xs, i, x', ex, rfl, hp.sq, ex', After.retd er a _ rx'⟩ hs
  · rename_i l
    cases e <;> first | exact a.elim | skip
    rename_i i
    obtain ⟨w, ew, a⟩ := After.optd a
    cases n2
    obtain ⟨p, xs, ex, hp, r⟩ := n1
    obtain ⟨x', ex', rx'⟩ := RepL.at r ew
    exact ix_list value slice pins s σ H _ _ v u Q I rx ry ⟨p, xs, i, x', ex, rfl, .inl (.inl hp), ex', After.retd er a _ rx'⟩ hs
  · exact key rfl a
  · rename_i l
    cases e <;> first | exact a.elim | skip
    rename_i i
    obtain ⟨w, ew, a⟩ := After.optd a
    cases n2
    obtain ⟨p, ex, hp⟩ := n1
    obtain ⟨x', ex', rx'⟩ := RepL.at (RepL.ints (K := X.K) (T := T) (κ := κ) (H := H) l) ew
    exact ix_list value slice pins s σ H _ _ v u Q I rx ry ⟨p, _, i, x', ex, rfl, hp, ex', After.retd er a _ rx'⟩ hs
theorem e_ix (hu : X.A.units + 1 < cLine) (ha : PE X a (tE X.K T W f)) (hb : PE X b (tE X.K T W g)) (hs : PlainIx b := by intro _ _; rfl) : PE X (.Subscript a b pos) (tE X.K T W (dIx f g)) :=
  pe_imp (pe_ix (ix_all (T := T) hu) ha hb hs) fun σ H Q q => tE_mono (tE2 q) fun x H1 q1 => tE_mono q1 fun y H2 ⟨κ, st, env, v, u, c, r1, r2, a⟩ => After.opD c.rel r1 r2 a
/-! ### slices -/
def tO (K : PySem.W.Frag) (T : Tb) (W : WX) (f : DO) : TO := fun σ H Q => ∃ κ st env, Cf K T σ κ H st env ∧ After K T W σ κ H (f env st) fun o _ _ H' => Q o H'
theorem po_imp {X : Cx} {e : Option Expr} {t t' : TO} (h : PO X e t) (i : ∀ σ H Q, t' σ H Q → t σ H Q) : PO X e t' := ⟨fun pins s σ H Q I q => h.run pins s σ H Q I (i σ H Q q)⟩
theorem o_none : PO X none (tO X.K T W oNone) := po_imp po_none fun σ H Q ⟨κ, st, env, c, a⟩ => After.retd c.rel a
theorem o_some (ha : PE X a (tE X.K T W f)) : PO X (some a) (tO X.K T W (oSome f)) := po_imp (po_some ha) fun σ H Q ⟨κ, st, env, c, a⟩ => ⟨κ, st, env, c, a.bind.imp fun v st1 κ1 H1 s1 e1 a1 x r => by
  obtain ⟨d, rd, a2⟩ := After.plaind r a1
  cases d <;> first | exact a2.elim | skip
  rename_i i
  exact ⟨i, rd, After.retd e1 a2⟩⟩
theorem RepL.drop {K : PySem.W.Frag} : ∀ {l : List D} {xs : List V} (n : Nat), RepL K T κ H l xs → RepL K T κ H (l.drop n) (xs.drop n)
  | _, _, 0, r => r
  | [], _, n + 1, r => by cases (show _ = [] from r); exact rfl
  | d :: l, _, n + 1, ⟨x, t, e, _, r⟩ => by subst e; exact RepL.drop n r
theorem RepL.take {K : PySem.W.Frag} : ∀ {l : List D} {xs : List V} (n : Nat), RepL K T κ H l xs → RepL K T κ H (l.take n) (xs.take n)
  | _, _, 0, r => rfl
  | [], _, n + 1, r => by cases (show _ = [] from r); exact rfl
  | d :: l, _, n + 1, ⟨x, t, e, r1, r⟩ => by subst e; exact ⟨x, _, rfl, r1, RepL.take n r⟩
theorem RepL.cut {K : PySem.W.Frag} {l : List D} {xs : List V} (r : RepL K T κ H l xs) (lo hi : Option Int) : RepL K T κ H (Fb.cut l lo hi) (cutV xs lo hi) := by
  unfold Fb.cut cutV
  rw [RepL.length r]
  exact (r.drop _).take _
theorem RepL.reverse {K : PySem.W.Frag} : ∀ {l : List D} {xs : List V}, RepL K T κ H l xs → RepL K T κ H l.reverse xs.reverse
  | [], _, r => by cases (show _ = [] from r); exact rfl
  | d :: l, _, ⟨x, t, e, r1, r⟩ => by
    subst e
    rw [List.reverse_cons, List.reverse_cons]
    exact RepL.app (RepL.reverse r) ⟨x, [], rfl, r1, rfl⟩
theorem sIx_full {lo hi : Option Int} {α : Type} {l : List α} (h : HT.sIx l.length 0 lo = 0 ∧ HT.sIx l.length l.length hi = l.length) : Fb.cut l lo hi = l := by
  unfold Fb.cut
  rw [h.1, h.2]
  simp
/-- what a slice of what stands now is -/
def rS (K : PySem.W.Frag) (T : Tb) : V → Option Int → Option Int → Hp → VK → Prop := fun x lo hi H Q => ∃ κ st d σ W, Rel K T κ H st ∧ Now K T κ H d x ∧ After K T W σ κ H (bnd (slD d lo hi) (fun z => ret (.d z)) st) (PV K T Q)
theorem cutV_map (l : List Int) (lo hi : Option Int) : cutV (l.map V.int) lo hi = (Fb.cut l lo hi).map V.int := by
  unfold cutV Fb.cut
  rw [List.length_map, List.map_take, List.map_drop]
theorem sl_all : SlR X (rS X.K T) := by
  intro pins s σ H x v vl vu lo hi sl Q I rx hs pl pu ⟨κ, st, d, σ', W, er, n, a⟩
  cases d <;> first | exact a.elim | skip
  · rename_i l
    obtain ⟨p, xs, ex, hp, r⟩ := n
    refine sl_tupA pins s σ H x v vl vu lo hi sl Q I rx hs pl pu ⟨p, xs, ex, hp.sq, fun hw => ?_, fun _ q hq => ?_⟩
    · refine After.retd er a _ ?_
      have : Fb.cut l lo hi = l := by
        rw [← RepL.length r] at hw
        exact sIx_full hw
      rw [this]
      exact ⟨p, xs, rfl, hp, r⟩
    · exact After.done (Step.alloc hq) (er.alloc hq) a _ (rep_tup_new er hq (r.cut lo hi))
  · rename_i l
    obtain ⟨p, xs, ex, hp, r⟩ := n
    refine sl_list pins s σ H x v vl vu lo hi sl Q I rx hs pl pu ⟨p, xs, ex, .inl (.inl hp), fun q hq => ?_⟩
    exact After.done (Step.alloc hq) (er.alloc hq) a _ (rep_lst_new er hq (r.cut lo hi))
  · rename_i l
    obtain ⟨p, ex, hp⟩ := n
    refine sl_list pins s σ H x v vl vu lo hi sl Q I rx hs pl pu ⟨p, _, ex, hp, fun q hq => ?_⟩
    rw [cutV_map]
    exact After.done (Step.alloc hq) (er.alloc hq) a _ (rep_lst_new er hq (RepL.ints _))
theorem tO_mono {σ : L2.St} {H : Hp} {o : DO} {Q Q' : Option Int → Hp → Prop} (h : tO X.K T W o σ H Q) (i : ∀ v H', Q v H' → Q' v H') : tO X.K T W o σ H Q' := by
  obtain ⟨κ, st, env, c, a⟩ := h
  exact ⟨κ, st, env, c, a.imp fun v _ κ' H' _ _ q => i v H' q⟩
theorem Now.step {κ' : Kap} {H' : Hp} (s : Step κ H κ' H') {d : D} {x : V} (r : Rep X.K T κ H d x) : Now X.K T κ' H' d x := (Rep.step s d x r).now
theorem e_sl {lo hi : Option Expr} {l u : DO} (ha : PE X a (tE X.K T W f)) (hl : PO X lo (tO X.K T W l)) (hu : PO X hi (tO X.K T W u)) : PE X (.Subscript a (.Slice lo hi none p2) pos) (tE X.K T W (dSl2 f l u)) := pe_imp (pe_slice (sl_all (T := T)) ha hl hu) fun σ H Q ⟨κ, st, env, c, a⟩ =>
  ⟨κ, st, env, c, a.bind.imp fun v st1 κ1 H1 s1 e1 a1 x rx => ⟨κ1, st1, env, c.step s1 e1, a1.bind.imp fun lo st2 κ2 H2 s2 e2 a2 => ⟨κ2, st2, env, (c.step s1 e1).step s2 e2, a2.bind.imp fun hi st3 κ3 H3 s3 e3 a3 => by
    obtain ⟨d, n, a4, _⟩ := After.snapd e3 (RepVal.step s3 v x (RepVal.step s2 v x rx)) a3
    exact ⟨κ3, st3, d, σ, W, e3, n, a4⟩⟩⟩⟩
theorem e_rev {k : Nat} {p1 p3 : Pos} (ha : PE X a (tE X.K T W f)) : PE X (.Subscript a (.Slice none none (some (.UnaryOp .USub (.Constant (.int 1) k p1) p2)) p3) pos) (tE X.K T W (dRev f)) := pe_imp (pe_revL ha) fun σ H Q ⟨κ, st, env, c, a⟩ =>
  ⟨κ, st, env, c, a.bind.imp fun v st1 κ1 H1 s1 e1 a1 x rx => by
    obtain ⟨d, n, a2, _⟩ := After.snapd e1 rx a1
    cases d <;> first | exact a2.elim | skip
    · rename_i l
      obtain ⟨p, xs, ex, hp, r⟩ := n
      exact ⟨p, xs, ex, .inl (.inl hp), fun q hq => After.done (Step.alloc hq) (e1.alloc hq) a2 _ (rep_lst_new e1 hq (RepL.reverse r))⟩
    · rename_i l
      obtain ⟨p, ex, hp⟩ := n
      refine ⟨p, _, ex, hp, fun q hq => ?_⟩
      rw [← List.map_reverse]
      exact After.done (Step.alloc hq) (e1.alloc hq) a2 _ (rep_lst_new e1 hq (RepL.ints _))⟩
/-! ### attributes -/
structure Fld (K : PySem.W.Frag) (T : Tb) (f : Str) (fld : Nat → Option Nat) : Prop where
  ok : ∀ c i, fld c = some i → ∃ C ns, T.ct c = some (C, ns) ∧ Cls K C ∧ NoAttr K C f ∧ ns[i]? = some f ∧ ns.Nodup
theorem lookup_zip {n : Str} : ∀ {ns : List Str} {vs : List V} {i : Nat} {v : V}, ns.Nodup → ns[i]? = some n → vs[i]? = some v → (ns.zip vs).lookup n = some v
  | [], _, _, _, _, h, _ => by simp at h
  | _ :: _, [], _, _, _, _, h => by simp at h
  | m :: ns, w :: vs, 0, v, nd, h1, h2 => by
    simp at h1 h2
    subst h1 h2
    simp [List.zip_cons_cons, List.lookup_cons]
  | m :: ns, w :: vs, i + 1, v, nd, h1, h2 => by
    have hne : (n == m) = false := by
      rw [beq_eq_false_iff_ne]
      rintro rfl
      exact (List.nodup_cons.mp nd).1 (List.mem_of_getElem? (by simpa using h1))
    rw [List.zip_cons_cons, List.lookup_cons, hne]
    exact lookup_zip (List.nodup_cons.mp nd).2 (by simpa using h1) (by simpa using h2)
theorem FldsOk.lookup {K : PySem.W.Frag} {ns : List Str} {n : Str} {i : Nat} (nd : ns.Nodup) (hi : ns[i]? = some n) : ∀ {fs : List (Nat × Val)} {gs : List (Str × V)} {v : Val}, FldsOk K T κ H ns fs gs → lkN i fs = some v → ∃ u, gs.lookup n = some u ∧ RepVal K T κ H v u
  | [], _, _, _, h => nomatch h
  | (j, w) :: r, _, v, ⟨m, u, t, e, hj, ru, rr⟩, h => by
    subst e
    unfold lkN at h
    by_cases z : j = i
    · rw [if_pos z] at h
      cases h
      subst z
      rw [hi] at hj
      cases hj
      exact ⟨u, by simp [List.lookup_cons], ru⟩
    · rw [if_neg z] at h
      have hne : (n == m) = false := by
        rw [beq_eq_false_iff_ne]
        rintro rfl
        obtain ⟨h1, e1⟩ := List.getElem?_eq_some_iff.mp hi
        obtain ⟨h2, e2⟩ := List.getElem?_eq_some_iff.mp hj
        exact z ((List.getElem_inj nd).mp (e2.trans e1.symm))
      rw [List.lookup_cons, hne]
      exact FldsOk.lookup nd hi rr h
theorem getF_ok {fld : Nat → Option Nat} {n : Str} {v : Val} {x : V} {Q : VK} (F : Fld X.K T n fld) (e : Rel X.K T κ H st) (rx : RepVal X.K T κ H v x) (h : After X.K T W σ κ H (getF fld v st) (PV X.K T Q)) :
    ∃ a C dx fs u, x = .ref a ∧ H a = some (.ins C dx fs) ∧ Cls X.K C ∧ NoAttr X.K C n ∧ fs.lookup n = some u ∧ Q u H := by
  cases v with
  | d y =>
    cases y <;> first | exact h.elim | skip
    rename_i c fs
    have h : After X.K T W σ κ H ((match fld c with | some i => bnd (optM fs[i]?) fun x => ret (Val.d x) | none => stk) st) (PV X.K T Q) := h
    cases q : fld c with
    | none => rw [q] at h; exact h.elim
    | some i =>
      rw [q] at h
      obtain ⟨d, ed, h⟩ := After.optd h
      obtain ⟨C, ns, h1, h2, h3, h4, h5⟩ := F.ok c i q
      obtain ⟨a, C', dx, ns', vs, ex, nk, hc, ha, hl, r⟩ := rx
      rw [h1] at hc
      cases hc
      obtain ⟨w, ew, rw'⟩ := r.get ed
      exact ⟨a, C, dx, _, w, ex, ha, h2, h3, lookup_zip h5 h4 ew, After.retd e h w rw'⟩
  | cell k =>
    have h : After X.K T W σ κ H (match st[k]? with | some (some (.ins c fs)) => (match fld c with | some i => optM (lkN i fs) st | none => .stuck) | _ => .stuck) (PV X.K T Q) := h
    obtain ⟨o, ho, hv⟩ := rx
    cases q : st[k]? with
    | none => rw [q] at h; exact h.elim
    | some c =>
      rw [q] at h
      cases c with
      | none => exact h.elim
      | some c =>
        obtain ⟨a, ha⟩ := e.live k c q
        have hx := hv a (Option.some.inj (ho.symm.trans ha))
        obtain ⟨c', hc', ok⟩ := e.cel k a ha
        rw [q] at hc'
        cases hc'
        cases c <;> first | exact h.elim | skip
        rename_i c fs
        obtain ⟨C, dx, ns, gs, h1, h2, h3, h4⟩ := ok
        have h : After X.K T W σ κ H (match fld c with | some i => optM (lkN i fs) st | none => .stuck) (PV X.K T Q) := h
        cases q : fld c with
        | none => rw [q] at h; exact h.elim
        | some i =>
          rw [q] at h
          obtain ⟨C', ns', g1, g2, g3, g4, g5⟩ := F.ok c i q
          rw [h1] at g1
          cases g1
          cases q2 : lkN i fs with
          | none => 
            have h : After X.K T W σ κ H (optM (lkN i fs) st) (PV X.K T Q) := h
            rw [q2] at h; exact h.elim
          | some w =>
            have h : After X.K T W σ κ H (optM (lkN i fs) st) (PV X.K T Q) := h
            rw [q2] at h
            obtain ⟨u, eu, ru⟩ := h4.lookup g5 g4 q2
            exact ⟨a, C, dx, gs, u, hx, h3, g2, g3, eu, After.retd e h u ru⟩
theorem e_fld {n : Str} {fld : Nat → Option Nat} (F : Fld X.K T n fld) (ha : PE X a (tE X.K T W f)) (hb : attributeBase a n X.env (eval a X.env) = eval a X.env := by rfl) : PE X (.Attribute a n pos) (tE X.K T W (dFld fld f)) :=
  pe_imp (pe_fld ha hb) fun σ H Q ⟨κ, st, env, c, a⟩ => ⟨κ, st, env, c, a.bind.imp fun v st1 κ1 H1 s1 e1 a1 x rx => getF_ok F e1 rx a1⟩
end
end Fb
/-! FbS -/
/-! FbS: statements, functions. -/
namespace Fb
open PySem PySem.Spec PyProof.Rows L2
/-! ### plain -/
inductive Rt where
  | nx (e : DEnv) (s : Sto) | bk (e : DEnv) (s : Sto) | ct (e : DEnv) (s : Sto) | rt (v : Val) (s : Sto) | exc (x : Ex) (e : DEnv) (s : Sto) | stuck
abbrev DS := DEnv → Sto → Rt
def bndE {α : Type} (m : M α) (e : DEnv) (k : α → Sto → Rt) (s : Sto) : Rt := match m s with
  | .ok a s' => k a s'
  | .exc x s' => .exc x e s'
  | .stuck => .stuck
def sPass : DS := fun e s => .nx e s
def sBrk : DS := fun e s => .bk e s
def sCnt : DS := fun e s => .ct e s
def sNever : DS := fun _ _ => .stuck
def sSeq (a b : DS) : DS := fun e s => match a e s with
  | .nx e' s' => b e' s'
  | r => r
def sSet (i : Nat) (f : DE) : DS := fun e => bndE (f e) e fun v s => .nx (e.set i (some v)) s
def sExpr (f : DE) : DS := fun e => bndE (f e) e fun _ s => .nx e s
def sRet (f : DE) : DS := fun e => bndE (f e) e fun v s => .rt v s
def sRetN : DS := fun _ s => .rt (.d .non) s
def sIf (t : DT) (a b : DS) : DS := fun e => bndE (t e) e fun c s => if c then a e s else b e s
/-- a name bound to a live thing is bound to what stands there; it is not written any more -/
def frzV (e : DEnv) (i : Nat) (k : Nat) (s : Sto) : Rt := match s[k]? with
  | some (some (.lst l)) => .nx (e.set i (some (.d (.lst l)))) (s.set k none)
  | some (some (.dic t l)) => .nx (e.set i (some (.d (.dic t l)))) (s.set k none)
  | _ => .stuck
def sFrz (i : Nat) : DS := fun e s => match e[i]? with
  | some (some (.cell k)) => frzV e i k s
  | some (some (.d _)) => .nx e s
  | _ => .stuck
def setAll : DEnv → List (Nat × Val) → DEnv
  | e, [] => e
  | e, (i, v) :: r => setAll (e.set i (some v)) r
def sPar (is : List Nat) (a : DA) : DS := fun e => bndE (a e) e fun vs s => if vs.length = is.length then .nx (setAll e (is.zip vs)) s else .stuck
def sUnp (is : List Nat) (f : DE) : DS := fun e => bndE (bnd (f e) plain) e fun x s => match x with
  | .tup l => if l.length = is.length then .nx (setAll e (is.zip (l.map .d))) s else .stuck
  | _ => .stuck
def sAug (i : Nat) (k : D → D → M D) (f : DE) : DS := fun e => bndE (bnd (dVar i e) fun v => bnd (f e) fun u => opD k v u) e fun v s => .nx (e.set i (some v)) s
def whileD (t : DT) (b : DS) : Nat → DS
  | 0 => sNever
  | n + 1 => fun e => bndE (t e) e fun c s => if c then (match b e s with
    | .nx e' s' => whileD t b n e' s'
    | .ct e' s' => whileD t b n e' s'
    | .bk e' s' => .nx e' s'
    | r => r) else .nx e s
def celOk (n : Nat) : Option Cel → Bool
  | some (.ins _ fs) => fs.all fun p => match p.2 with
    | .cell k => decide (k < n)
    | _ => true
  | _ => true
def trunc (n : Nat) (s : Sto) : Sto := if (s.take n).all (celOk n) then s.take n else s
def fnD (ps ns : Nat) (f : DS) : List Val → M Val := fun args s => if args.length = ps then (match f (args.map some ++ List.replicate (ns - args.length) none) s with
  | .nx _ s' => .ok (.d .non) (trunc s.length s')
  | .rt (.d x) s' => .ok (.d x) (trunc s.length s')
  | .rt (.cell k) s' => .ok (.cell k) s'
  | .exc x _ s' => .exc x (trunc s.length s')
  | _ => .stuck) else .stuck
def dCall (G : List Val → M Val) (ds : List Val) (a : DA) : DE := fun e => bnd (a e) fun vs => G (vs ++ ds)
/-! ### cells written, frozen, dropped -/
section
variable {K : PySem.W.Frag} {T : Tb} {W : WX} {σ : L2.St} {κ κ' : Kap} {H H' : Hp} {st st' : Sto} {env : DEnv}
theorem Rel.addr (r : Rel K T κ H st) {k : Nat} {c : Cel} (h : st[k]? = some (some c)) {x : V} (rv : RepVal K T κ H (.cell k) x) : ∃ a, x = .ref a ∧ κ[k]? = some (some a) ∧ CelOk K T κ H a c := by
  obtain ⟨o, ho, hv⟩ := rv
  obtain ⟨a, ha⟩ := r.live k c h
  obtain ⟨c', hc, ok⟩ := r.cel k a ha
  rw [h] at hc
  cases hc
  exact ⟨a, hv a (Option.some.inj (ho.symm.trans ha)), ha, ok⟩
theorem Step.write {k : Nat} {a : Addr} {o : HO} (hk : κ[k]? = some (some a)) : Step κ H κ (upd H a o) :=
  ⟨Nat.le_refl _, fun _ _ _ h => h, fun i b hi h => absurd h (by rw [List.getElem?_eq_none hi]; exact fun z => nomatch z), fun b u e n => by
    rw [upd_ne (fun z => n (by rw [z]; exact List.mem_of_getElem? hk))]; exact e, fun b e => by
      by_cases hb : b = a
      · rw [hb, upd_same] at e; cases e
      · rw [upd_ne hb] at e; exact e⟩
theorem Rel.write (r : Rel K T κ H st) {k : Nat} {a : Addr} {o : HO} {c : Cel} (hk : κ[k]? = some (some a)) (ok : CelOk K T κ (upd H a o) a c) : Rel K T κ (upd H a o) (st.set k (some c)) := by
  have s : Step κ H κ (upd H a o) := Step.write hk
  refine ⟨by rw [List.length_set]; exact r.len, r.inj, fun i b hb => ?_, fun i c' hc => ?_⟩
  · by_cases z : k = i
    · subst z
      rw [hk] at hb
      cases hb
      obtain ⟨c', hc', _⟩ := r.cel k a hk
      exact ⟨c, List.getElem?_set_self (List.getElem?_eq_some_iff.mp hc').1, ok⟩
    · obtain ⟨c', h1, h2⟩ := r.cel i b hb
      exact ⟨c', by rw [List.getElem?_set_ne z]; exact h1, h2.step s (upd_ne fun q => z (r.inj k i a hk (by rw [← q]; exact hb)))⟩
  · by_cases z : k = i
    · subst z; exact ⟨a, hk⟩
    · rw [List.getElem?_set_ne z] at hc
      exact r.live i c' hc
/-- the thing at a is not written any more -/
theorem Step.drop {k : Nat} {a : Addr} (hk : κ[k]? = some (some a)) (hd : ∀ b, H' b = none → H b = none) (hs : ∀ b, b ≠ a → H' b = H b) : Step κ H (κ.set k none) H' where
  len := by rw [List.length_set]; exact Nat.le_refl _
  old := fun i b _ h => by
    by_cases z : k = i
    · subst z; rw [List.getElem?_set_self (List.getElem?_eq_some_iff.mp hk).1] at h; cases h
    · rw [List.getElem?_set_ne z] at h; exact h
  new := fun i b hi h => by rw [List.getElem?_eq_none (by rw [List.length_set]; exact hi)] at h; cases h
  fr := fun b o e n => by rw [hs b fun z => n (by rw [z]; exact List.mem_of_getElem? hk)]; exact e
  dom := hd
theorem Rel.out_drop (r : Rel K T κ H st) {k : Nat} {a : Addr} (hk : κ[k]? = some (some a)) : some a ∉ κ.set k none := fun hm => by
  obtain ⟨i, hi⟩ := List.mem_iff_getElem?.mp hm
  by_cases z : k = i
  · subst z; rw [List.getElem?_set_self (List.getElem?_eq_some_iff.mp hk).1] at hi; cases hi
  · rw [List.getElem?_set_ne z] at hi
    exact z (r.inj k i a hk hi)
theorem Rel.drop (r : Rel K T κ H st) {k : Nat} {a : Addr} (hk : κ[k]? = some (some a)) (s : Step κ H (κ.set k none) H') (hs : ∀ b, b ≠ a → H' b = H b) : Rel K T (κ.set k none) H' (st.set k none) where
  len := by rw [List.length_set, List.length_set]; exact r.len
  inj := fun i j b hi hj => by
    have hi' : κ[i]? = some (some b) := by
      by_cases z : k = i
      · subst z; rw [List.getElem?_set_self (List.getElem?_eq_some_iff.mp hk).1] at hi; cases hi
      · rw [List.getElem?_set_ne z] at hi; exact hi
    have hj' : κ[j]? = some (some b) := by
      by_cases z : k = j
      · subst z; rw [List.getElem?_set_self (List.getElem?_eq_some_iff.mp hk).1] at hj; cases hj
      · rw [List.getElem?_set_ne z] at hj; exact hj
    exact r.inj i j b hi' hj'
  cel := fun i b hi => by
    by_cases z : k = i
    · subst z; rw [List.getElem?_set_self (List.getElem?_eq_some_iff.mp hk).1] at hi; cases hi
    · rw [List.getElem?_set_ne z] at hi
      obtain ⟨c, h1, h2⟩ := r.cel i b hi
      exact ⟨c, by rw [List.getElem?_set_ne z]; exact h1, h2.step s (hs b fun q => z (r.inj k i a hk (by rw [← q]; exact hi)))⟩
  live := fun i c hc => by
    by_cases z : k = i
    · subst z
      by_cases hl : k < st.length
      · rw [List.getElem?_set_self hl] at hc; cases hc
      · rw [List.getElem?_eq_none (by rw [List.length_set]; omega)] at hc; cases hc
    · rw [List.getElem?_set_ne z] at hc
      obtain ⟨b, hb⟩ := r.live i c hc
      exact ⟨b, by rw [List.getElem?_set_ne z]; exact hb⟩
/-- fewer cells -/
theorem getElem?_take_some {α : Type} {l : List α} {n i : Nat} {x : α} (h : (l.take n)[i]? = some x) : i < n ∧ l[i]? = some x := by
  rw [List.getElem?_take] at h
  by_cases z : i < n
  · rw [if_pos z] at h; exact ⟨z, h⟩
  · rw [if_neg z] at h; cases h
theorem Step.cut (s : Step κ H κ' H') : Step κ H (κ'.take κ.length) H' where
  len := by rw [List.length_take]; have := s.len; omega
  old := fun i a hi h => s.old i a hi (getElem?_take_some h).2
  new := fun i a hi h => absurd (getElem?_take_some h).1 (by omega)
  fr := s.fr
  dom := s.dom
/-- the same heap, fewer cells -/
theorem Step.less (n : Nat) (κ : Kap) (H : Hp) : ∀ a, some a ∉ κ → some a ∉ κ.take n := fun a h hm => h (List.mem_of_mem_take hm)
mutual
theorem Rep.less (n : Nat) : ∀ (d : D) (v : V), Rep K T κ H d v → Rep K T (κ.take n) H d v
  | .non, _, h => h
  | .bl _, _, h => h
  | .int _, _, h => h
  | .str _, _, h => h
  | .tup l, _, ⟨a, xs, e, t, r⟩ => ⟨a, xs, e, t.elim (fun h => .inl ⟨Step.less n κ H a h.1, h.2⟩) .inr, RepL.less n l xs r⟩
  | .lst l, _, ⟨a, xs, e, t, r⟩ => ⟨a, xs, e, ⟨Step.less n κ H a t.1, t.2⟩, RepL.less n l xs r⟩
  | .dic false l, _, ⟨a, o, kvs, e, m, h, r⟩ => ⟨a, o, kvs, e, Step.less n κ H a m, h, RepPK.less n l kvs r⟩
  | .dic true l, _, ⟨a, o, kvs, e, m, h, r⟩ => ⟨a, o, kvs, e, Step.less n κ H a m, h, RepPT.less n l kvs r⟩
  | .arr l, _, ⟨a, e, t⟩ => ⟨a, e, t.elim (fun h => .inl ⟨Step.less n κ H a h.1, h.2⟩) .inr⟩
  | .ins c fs, _, ⟨a, C, dx, ns, vs, e, m, hc, h, hl, r⟩ => ⟨a, C, dx, ns, vs, e, Step.less n κ H a m, hc, h, hl, RepL.less n fs vs r⟩
theorem RepL.less (n : Nat) : ∀ (l : List D) (xs : List V), RepL K T κ H l xs → RepL K T (κ.take n) H l xs
  | [], _, h => h
  | d :: r, _, ⟨x, t, e, h1, h2⟩ => ⟨x, t, e, Rep.less n d x h1, RepL.less n r t h2⟩
theorem RepPK.less (n : Nat) : ∀ (l : List (D × D)) (xs : List (Key × V)), RepPK K T κ H l xs → RepPK K T (κ.take n) H l xs
  | [], _, h => h
  | (k, d) :: r, _, ⟨kk, x, t, e, hk, h1, h2⟩ => ⟨kk, x, t, e, hk, Rep.less n d x h1, RepPK.less n r t h2⟩
theorem RepPT.less (n : Nat) : ∀ (l : List (D × D)) (xs : List (List Key × V)), RepPT K T κ H l xs → RepPT K T (κ.take n) H l xs
  | [], _, h => h
  | (k, d) :: r, _, ⟨kk, x, t, e, hk, h1, h2⟩ => ⟨kk, x, t, e, hk, Rep.less n d x h1, RepPT.less n r t h2⟩
end
theorem RepVal.less (n : Nat) : ∀ (d : Val) (v : V), (∀ k, d = .cell k → k < n) → RepVal K T κ H d v → RepVal K T (κ.take n) H d v
  | .d x, v, _, h => Rep.less n x v h
  | .cell k, v, hk, ⟨o, h, e⟩ => ⟨o, by rw [List.getElem?_take, if_pos (hk k rfl)]; exact h, e⟩
theorem FldsOk.less (n : Nat) {ns : List Str} : ∀ (fs : List (Nat × Val)) (gs : List (Str × V)), (fs.all fun p => match p.2 with | .cell k => decide (k < n) | _ => true) = true → FldsOk K T κ H ns fs gs → FldsOk K T (κ.take n) H ns fs gs
  | [], _, _, h => h
  | (i, v) :: r, _, ha, ⟨m, u, t, e, h1, h2, h3⟩ => by
    rw [List.all_cons, Bool.and_eq_true] at ha
    refine ⟨m, u, t, e, h1, RepVal.less n v u (fun k ek => ?_) h2, FldsOk.less n r t ha.2 h3⟩
    subst ek
    exact of_decide_eq_true ha.1
theorem CelOk.less (n : Nat) {a : Addr} : ∀ {c : Cel}, celOk n (Option.some c) = true → CelOk K T κ H a c → CelOk K T (κ.take n) H a c
  | .lst l, _, ⟨xs, h, r⟩ => ⟨xs, h, RepL.less n l xs r⟩
  | .dic false l, _, ⟨xs, h, r⟩ => ⟨xs, h, RepPK.less n l xs r⟩
  | .dic true l, _, ⟨xs, h, r⟩ => ⟨xs, h, RepPT.less n l xs r⟩
  | .ins c fs, ho, ⟨C, dx, ns, gs, h1, h2, h3, h4⟩ => ⟨C, dx, ns, gs, h1, h2, h3, FldsOk.less n fs gs ho h4⟩
theorem Rel.less (r : Rel K T κ H st) (n : Nat) (h : (st.take n).all (celOk n) = true) : Rel K T (κ.take n) H (st.take n) where
  len := by rw [List.length_take, List.length_take, r.len]
  inj := fun i j a hi hj => r.inj i j a (getElem?_take_some hi).2 (getElem?_take_some hj).2
  cel := fun i a hi => by
    obtain ⟨hn, hi⟩ := getElem?_take_some hi
    obtain ⟨c, h1, h2⟩ := r.cel i a hi
    have h1' : (st.take n)[i]? = some (some c) := by rw [List.getElem?_take, if_pos hn]; exact h1
    exact ⟨c, h1', h2.less n (List.all_eq_true.mp h _ (List.mem_of_getElem? h1'))⟩
  live := fun i c hi => by
    obtain ⟨hn, hi⟩ := getElem?_take_some hi
    obtain ⟨a, ha⟩ := r.live i c hi
    exact ⟨a, by rw [List.getElem?_take, if_pos hn]; exact ha⟩
/-- behind a callee -/
theorem Rel.trunc {κ0 : Kap} {H0 : Hp} {st0 : Sto} (r0 : Rel K T κ0 H0 st0) (s : Step κ0 H0 κ H) (r : Rel K T κ H st) : ∃ κ', Step κ0 H0 κ' H ∧ Rel K T κ' H (trunc st0.length st) ∧ (∀ (d : D) (v : V), Rep K T κ H d v → Rep K T κ' H d v) := by
  unfold Fb.trunc
  by_cases q : (st.take st0.length).all (celOk st0.length) = true
  · rw [if_pos q]
    refine ⟨κ.take κ0.length, s.cut, ?_, fun d v h => Rep.less _ d v h⟩
    rw [r0.len]
    exact r.less _ q
  · rw [if_neg q]
    exact ⟨κ, s, r, fun _ _ h => h⟩
end
/-! ### what a statement leaves -/
section
variable (K : PySem.W.Frag) (T : Tb) (W : WX)
def AftS (κ : Kap) (H : Hp) (r : Rt) (D : Ends) : Prop := match r with
  | .nx e s => ∀ σ' κ' H', Step κ H κ' H' → Cf K T σ' κ' H' s e → D.nx σ' H'
  | .bk e s => ∀ σ' κ' H', Step κ H κ' H' → Cf K T σ' κ' H' s e → D.bk σ' H'
  | .ct e s => ∀ σ' κ' H', Step κ H κ' H' → Cf K T σ' κ' H' s e → D.ct σ' H'
  | .rt v s => ∀ u κ' H', Step κ H κ' H' → Rel K T κ' H' s → RepVal K T κ' H' v u → D.rt u H'
  | .exc x e s => ∀ σ' cls d κ' H', Step κ H κ' H' → Cf K T σ' κ' H' s e → RepX K T κ' H' x cls d → W cls d σ' H'
  | .stuck => False
def tS (f : DS) : TS := fun D σ H => ∃ κ st env, Cf K T σ κ H st env ∧ AftS K T W κ H (f env st) D
end
section
variable {K : PySem.W.Frag} {T : Tb} {W : WX} {σ : L2.St} {κ κ' : Kap} {H H' : Hp} {st st' : Sto} {env : DEnv} {α : Type}
theorem AftS.since {r : Rt} {D : Ends} (s : Step κ H κ' H') (h : AftS K T W κ H r D) : AftS K T W κ' H' r D := by
  cases r with
  | nx e st => exact fun σ' κ2 H2 t => h σ' κ2 H2 (s.trans t)
  | bk e st => exact fun σ' κ2 H2 t => h σ' κ2 H2 (s.trans t)
  | ct e st => exact fun σ' κ2 H2 t => h σ' κ2 H2 (s.trans t)
  | rt v st => exact fun u κ2 H2 t => h u κ2 H2 (s.trans t)
  | exc x e st => exact fun σ' cls d κ2 H2 t => h σ' cls d κ2 H2 (s.trans t)
  | stuck => exact h
theorem AftS.bndd {m : M α} {k : α → Sto → Rt} {D : Ends} (c : Cf K T σ κ H st env) (h : AftS K T W κ H (bndE m env k st) D) : After K T W σ κ H (m st) fun a st1 κ1 H1 => AftS K T W κ1 H1 (k a st1) D := by
  unfold bndE at h
  cases q : m st with
  | ok a st1 =>
    rw [q] at h
    exact fun κ1 H1 t e => AftS.since t h
  | exc x st1 =>
    rw [q] at h
    exact fun cls d κ1 H1 t e rx => h σ cls d κ1 H1 t (c.step t e) rx
  | stuck =>
    rw [q] at h
    exact h
theorem AftS.nxd {D : Ends} (c : Cf K T σ κ H st env) (h : AftS K T W κ H (.nx env st) D) : D.nx σ H := h σ κ H (Step.refl _ _) c
theorem AftS.imp {r : Rt} {D D' : Ends} (h : AftS K T W κ H r D) (h1 : ∀ e s, r = .nx e s → ∀ σ' κ' H', Step κ H κ' H' → Cf K T σ' κ' H' s e → D.nx σ' H' → D'.nx σ' H') (h2 : ∀ u H', D.rt u H' → D'.rt u H')
    (h3 : ∀ e s, r = .bk e s → ∀ σ' κ' H', Step κ H κ' H' → Cf K T σ' κ' H' s e → D.bk σ' H' → D'.bk σ' H') (h4 : ∀ e s, r = .ct e s → ∀ σ' κ' H', Step κ H κ' H' → Cf K T σ' κ' H' s e → D.ct σ' H' → D'.ct σ' H') : AftS K T W κ H r D' := by
  cases r with
  | nx e st => exact fun σ' κ2 H2 t c => h1 e st rfl σ' κ2 H2 t c (h σ' κ2 H2 t c)
  | bk e st => exact fun σ' κ2 H2 t c => h3 e st rfl σ' κ2 H2 t c (h σ' κ2 H2 t c)
  | ct e st => exact fun σ' κ2 H2 t c => h4 e st rfl σ' κ2 H2 t c (h σ' κ2 H2 t c)
  | rt v st => exact fun u κ2 H2 t c r => h2 _ _ (h u κ2 H2 t c r)
  | exc x e st => exact h
  | stuck => exact h
end
section
variable {X : Cx} {T : Tb} {W : WX} {pos pos' : Pos} {a b c e : Expr} {f g : DE} {t : DT} {da : DA} {s1 : Stmt} {ss s2 : List Stmt} {p q : DS}
theorem s_pass : PS X (.Pass pos) (tS X.K T W sPass) := ps_imp ps_pass fun D σ H ⟨κ, st, env, c, a⟩ => a.nxd c
theorem s_brk : PS X (.Break pos) (tS X.K T W sBrk) := ps_imp ps_break fun D σ H ⟨κ, st, env, c, a⟩ => a σ κ H (Step.refl _ _) c
theorem s_cnt : PS X (.Continue pos) (tS X.K T W sCnt) := ps_imp ps_continue fun D σ H ⟨κ, st, env, c, a⟩ => a σ κ H (Step.refl _ _) c
theorem s_never : PS X s1 (tS X.K T W sNever) := ps_imp ps_never fun D σ H ⟨κ, st, env, c, a⟩ => a
theorem ss_never : PSs X ss (tS X.K T W sNever) := pss_imp pss_never fun D σ H ⟨κ, st, env, c, a⟩ => a
theorem s_expr (ha : PE X a (tE X.K T W f)) (hs : swapsWith a none pos.line X.env = pure false := by rfl) : PS X (.Expr a pos) (tS X.K T W (sExpr f)) := ps_imp (ps_expr ha hs) fun D σ H ⟨κ, st, env, c, a⟩ =>
  ⟨κ, st, env, c, (AftS.bndd c a).imp fun v st1 κ1 H1 t1 e1 a1 u r => a1.nxd (c.step t1 e1)⟩
theorem s_ret (ha : PE X a (tE X.K T W f)) : PS X (.Return (some a) pos) (tS X.K T W (sRet f)) := ps_imp (ps_ret ha) fun D σ H ⟨κ, st, env, c, a⟩ =>
  ⟨κ, st, env, c, (AftS.bndd c a).imp fun v st1 κ1 H1 t1 e1 a1 u r => a1 u κ1 H1 (Step.refl _ _) e1 r⟩
theorem s_retN : PS X (.Return none pos) (tS X.K T W sRetN) := ps_imp ps_retN fun D σ H ⟨κ, st, env, c, a⟩ => a .non κ H (Step.refl _ _) c.rel rfl
theorem s_set {i : Nat} {x : Str} (hN : X.N.Nodup) (hi : X.N[i]? = some x) (hx : Loc X.env.scope x) (ha : PE X a (tE X.K T W f)) (hs : swapsWith a (some (.Name x pos')) pos.line X.env = pure false := by rfl)
    (hf : X.fn x = true ∨ X.env.scope.names.lookup x = some .local := by first | exact .inl rfl | exact .inr rfl | assumption) : PS X (.Assign [.Name x pos'] a pos) (tS X.K T W (sSet i f)) := ps_imp (ps_set hN hi hx ha hs hf) fun D σ H ⟨κ, st, env, c, a⟩ =>
  ⟨κ, st, env, c, (AftS.bndd c a).imp fun v st1 κ1 H1 t1 e1 a1 u r => AftS.nxd ⟨e1, (c.env.step t1).set i r⟩ a1⟩
theorem s_if (hc : PT X c (tT X.K T W t)) (ha : PSs X ss (tS X.K T W p)) (hb : PSs X s2 (tS X.K T W q)) : PS X (.If c ss s2 pos) (tS X.K T W (sIf t p q)) := ps_imp (ps_if hc ha hb) fun D σ H ⟨κ, st, env, c, a⟩ =>
  ⟨κ, st, env, c, (AftS.bndd c a).imp fun b st1 κ1 H1 t1 e1 a1 => by
    cases b with
    | true => exact iteT ⟨κ1, st1, env, c.step t1 e1, a1⟩
    | false => exact iteF ⟨κ1, st1, env, c.step t1 e1, a1⟩⟩
theorem tS_seq {D : Ends} {σ : L2.St} {H : Hp} (h : tS X.K T W (sSeq p q) D σ H) : tS X.K T W p { D with nx := tS X.K T W q D } σ H := by
  obtain ⟨κ, st, env, c, a⟩ := h
  refine ⟨κ, st, env, c, ?_⟩
  unfold sSeq at a
  cases z : p env st with
  | nx e' s' =>
    rw [z] at a
    exact fun σ' κ' H' t c' => ⟨κ', s', e', c', AftS.since t a⟩
  | bk e' s' => rw [z] at a; exact a
  | ct e' s' => rw [z] at a; exact a
  | rt v s' => rw [z] at a; exact a
  | exc x e' s' => rw [z] at a; exact a
  | stuck => rw [z] at a; exact a
theorem ss_nil : PSs X [] (tS X.K T W sPass) := pss_imp pss_nil fun D σ H ⟨κ, st, env, c, a⟩ => a.nxd c
theorem ss_cons (h1 : PS X s1 (tS X.K T W p)) (h2 : PSs X ss (tS X.K T W q)) : PSs X (s1 :: ss) (tS X.K T W (sSeq p q)) := pss_imp (pss_cons h1 h2) fun D σ H h => tS_seq h
theorem ss_one (h1 : PS X s1 (tS X.K T W p)) : PSs X [s1] (tS X.K T W p) := pss_one h1
/-- behind a return nothing is walked -/
theorem ss_last (h1 : PS X s1 (tS X.K T W p)) : PSs X (s1 :: ss) (tS X.K T W (sSeq p sNever)) := ss_cons h1 ss_never
/-- a thing may be locked ahead of a suite -/
theorem pss_may {t : TS} (h : PSs X ss t) : PSs X ss (fun D σ H => t D σ H ∨ ∃ a u, H a = some u ∧ Mut (some u) ∧ ∀ od, t D σ (upd H a (.frz od u))) := by
  refine ⟨fun pins s σ H D I hw => ?_⟩
  rcases hw with hw | ⟨a, u, ha, mu, hw⟩
  · exact h.run pins s σ H D I hw
  · obtain ⟨od, I1⟩ := I.lock ha mu
    exact h.run pins s σ _ D I1 (hw od)
theorem ss_frz (i : Nat) (h : PSs X ss (tS X.K T W p)) : PSs X ss (tS X.K T W (sSeq (sFrz i) p)) := pss_imp (pss_may h) fun D σ H hw => by
  obtain ⟨κ, st, env, c, a⟩ := tS_seq hw
  unfold sFrz at a
  cases q : env[i]? with
  | none => rw [q] at a; exact a.elim
  | some o =>
    cases o with
    | none => rw [q] at a; exact a.elim
    | some v =>
      cases v with
      | d x => rw [q] at a; exact .inl (AftS.nxd c a)
      | cell k =>
        rw [q] at a
        obtain ⟨u, hu, ru⟩ := c.env.2 i _ q
        change AftS X.K T W κ H (frzV env i k st) _ at a
        unfold frzV at a
        cases z : st[k]? with
        | none => rw [z] at a; exact a.elim
        | some o =>
          cases o with
          | none => rw [z] at a; exact a.elim
          | some cl =>
            obtain ⟨ad, hx, hk, ok⟩ := c.rel.addr z ru
            subst hx
            cases cl with
            | ins _ _ => rw [z] at a; exact a.elim
            | lst l =>
              rw [z] at a
              obtain ⟨xs, h1, h2⟩ := ok
              have sp : Step κ H (κ.set k none) H := Step.drop hk (fun _ e => e) fun _ _ => rfl
              refine .inl (a σ (κ.set k none) H sp ⟨c.rel.drop hk sp fun _ _ => rfl, ?_⟩)
              have := (c.env.step sp).set i (v := .d (.lst l)) (u := .ref ad) ⟨ad, xs, rfl, ⟨c.rel.out_drop hk, h1⟩, RepL.step sp l xs h2⟩
              rwa [show σ.set i (some (V.ref ad)) = σ from by
                apply List.ext_getElem?
                intro j
                by_cases hj : i = j
                · subst hj; rw [List.getElem?_set_self (List.getElem?_eq_some_iff.mp hu).1]; exact hu.symm
                · rw [List.getElem?_set_ne hj]] at this
            | dic t l =>
              rw [z] at a
              have hset : σ.set i (some (V.ref ad)) = σ := by
                apply List.ext_getElem?
                intro j
                by_cases hj : i = j
                · subst hj; rw [List.getElem?_set_self (List.getElem?_eq_some_iff.mp hu).1]; exact hu.symm
                · rw [List.getElem?_set_ne hj]
              cases t with
              | false =>
                obtain ⟨kvs, h1, h2⟩ := ok
                refine .inr ⟨ad, .dK kvs, h1, True.intro, fun od => ?_⟩
                have hs : ∀ b, b ≠ ad → upd H ad (.frz od (.dK kvs)) b = H b := fun b hb => upd_ne hb
                have sp : Step κ H (κ.set k none) (upd H ad (.frz od (.dK kvs))) := Step.drop hk (fun b e => by
                  by_cases hb : b = ad
                  · rw [hb, upd_same] at e; cases e
                  · rw [upd_ne hb] at e; exact e) hs
                refine a σ (κ.set k none) _ sp ⟨c.rel.drop hk sp hs, ?_⟩
                have := (c.env.step sp).set i (v := .d (.dic false l)) (u := .ref ad) ⟨ad, od, kvs, rfl, c.rel.out_drop hk, upd_same, RepPK.step sp l kvs h2⟩
                rwa [hset] at this
              | true =>
                obtain ⟨kvs, h1, h2⟩ := ok
                refine .inr ⟨ad, .dT kvs, h1, True.intro, fun od => ?_⟩
                have hs : ∀ b, b ≠ ad → upd H ad (.frz od (.dT kvs)) b = H b := fun b hb => upd_ne hb
                have sp : Step κ H (κ.set k none) (upd H ad (.frz od (.dT kvs))) := Step.drop hk (fun b e => by
                  by_cases hb : b = ad
                  · rw [hb, upd_same] at e; cases e
                  · rw [upd_ne hb] at e; exact e) hs
                refine a σ (κ.set k none) _ sp ⟨c.rel.drop hk sp hs, ?_⟩
                have := (c.env.step sp).set i (v := .d (.dic true l)) (u := .ref ad) ⟨ad, od, kvs, rfl, c.rel.out_drop hk, upd_same, RepPT.step sp l kvs h2⟩
                rwa [hset] at this
theorem s_while (n : Nat) (hp : PassesOwn (model X.prog X.w) X.A X.env X.xe) (hc : PT X c (tT X.K T W t)) (hb : PSs X ss (tS X.K T W p)) : PS X (.While c ss [] pos) (tS X.K T W (whileD t p n)) := ps_imp (ps_while hp hc hb) fun D σ H h => by
  refine ⟨fun m σ H => tS X.K T W (whileD t p m) D σ H, ⟨n, h⟩, ?_⟩
  rintro m σ H ⟨κ, st, env, c, a⟩
  cases m with
  | zero => exact a.elim
  | succ m =>
    refine ⟨κ, st, env, c, (AftS.bndd c a).imp fun b st1 κ1 H1 t1 e1 a1 => ?_⟩
    cases b with
    | false => exact iteF (AftS.nxd (c.step t1 e1) a1)
    | true =>
      refine iteT ⟨fun σ' H' => tS X.K T W (whileD t p m) D σ' H', fun σ' H' h' => ⟨m, Nat.lt_succ_self m, h'⟩, κ1, st1, env, c.step t1 e1, ?_⟩
      have a1 : AftS X.K T W κ1 H1 (match p env st1 with | .nx e' s' => whileD t p m e' s' | .ct e' s' => whileD t p m e' s' | .bk e' s' => .nx e' s' | r => r) D := a1
      cases z : p env st1 with
      | nx e' s' => rw [z] at a1; exact fun σ' κ' H' t' c' => ⟨κ', s', e', c', AftS.since t' a1⟩
      | ct e' s' => rw [z] at a1; exact fun σ' κ' H' t' c' => ⟨κ', s', e', c', AftS.since t' a1⟩
      | bk e' s' => rw [z] at a1; exact a1
      | rt v s' => rw [z] at a1; exact a1
      | exc x e' s' => rw [z] at a1; exact a1
      | stuck => rw [z] at a1; exact a1
end
end Fb
/-! FbF -/
/-! FbF: what a def promises; calls; makes; methods. -/
namespace Fb
open PySem PySem.Spec PyProof.Rows L2
abbrev WF : WX := fun _ _ _ _ => False
abbrev WK (E : XK) : WX := fun cls d _ H => E cls d H
section
variable {K : PySem.W.Frag} {T : Tb} {W W' : WX} {σ σ' : L2.St} {κ κ' : Kap} {H H' : Hp} {st st' : Sto} {env : DEnv} {α : Type}
theorem RepVals.length : ∀ {l : List Val} {xs : List V}, RepVals K T κ H l xs → l.length = xs.length
  | [], _, h => by cases (show _ = [] from h); rfl
  | d :: r, _, ⟨x, t, e, _, h⟩ => by rw [e, List.length_cons, List.length_cons, RepVals.length h]
theorem RepVals.app : ∀ {l m : List Val} {xs ys : List V}, RepVals K T κ H l xs → RepVals K T κ H m ys → RepVals K T κ H (l ++ m) (xs ++ ys)
  | [], _, _, _, h, q => by cases (show _ = [] from h); exact q
  | d :: r, _, _, _, ⟨x, t, e, h1, h2⟩, q => by subst e; exact ⟨x, _, rfl, h1, RepVals.app h2 q⟩
theorem RepVals.get : ∀ {l : List Val} {xs : List V} {i : Nat} {v : Val}, RepVals K T κ H l xs → l[i]? = some v → ∃ x, xs[i]? = some x ∧ RepVal K T κ H v x
  | [], _, _, _, _, h => by simp at h
  | d :: r, _, 0, _, ⟨x, t, e, h1, _⟩, h => by simp at h; subst h; subst e; exact ⟨x, rfl, h1⟩
  | d :: r, _, i + 1, _, ⟨x, t, e, _, h2⟩, h => by
    subst e
    obtain ⟨y, h3, h4⟩ := RepVals.get (i := i) h2 (by simpa using h)
    exact ⟨y, by simpa using h3, h4⟩
/-- another wish that says the same of these slots -/
theorem After.wish {r : Rs α} {P : α → Sto → Kap → Hp → Prop} (h : After K T W σ κ H r P) (i : ∀ cls d H', W cls d σ H' → W' cls d σ' H') : After K T W' σ' κ H r P := by
  cases r with
  | ok a st => exact h
  | exc x st => exact fun cls d κ' H' t e rx => i _ _ _ (h cls d κ' H' t e rx)
  | stuck => exact h
theorem start_env {N : List Str} {args : List Val} {vs : List V} (r : RepVals K T κ H args vs) (hl : vs.length ≤ N.length) : EnvRep K T κ H (L2.start N vs) (args.map some ++ List.replicate (N.length - args.length) none) := by
  have e := r.length
  refine ⟨by unfold L2.start; simp [e], fun i v h => ?_⟩
  unfold L2.start
  by_cases hi : i < args.length
  · rw [List.getElem?_append_left (by simpa using hi), List.getElem?_map] at h
    cases q : args[i]? with
    | none => rw [q] at h; cases h
    | some w =>
      rw [q] at h
      cases h
      obtain ⟨x, hx, rx⟩ := r.get q
      refine ⟨x, ?_, rx⟩
      rw [List.getElem?_append_left (by simp; omega), List.getElem?_map, hx]
      rfl
  · rw [List.getElem?_append_right (by simp; omega), List.getElem?_replicate] at h
    split at h <;> cases h
theorem RepX.less {x : Ex} {cls : Value} {d : Option Addr} (l : ∀ (l : List D) (xs : List V), RepL K T κ H l xs → RepL K T κ' H l xs) (h : RepX K T κ H x cls d) : RepX K T κ' H x cls d := by
  obtain ⟨C, ns, h1, h2, h3⟩ := h
  refine ⟨C, ns, h1, h2, ?_⟩
  cases q : x.fs with
  | nil => rw [q] at h3; exact h3
  | cons f r =>
    rw [q] at h3
    obtain ⟨dx, vs, e1, e2, e3, e4⟩ := h3
    exact ⟨dx, vs, e1, e2, e3, l _ _ e4⟩
theorem RepX.step {x : Ex} {cls : Value} {d : Option Addr} (s : Step κ H κ' H') (h : RepX K T κ H x cls d) (hk : ∀ dx, d = some dx → some dx ∉ κ) : RepX K T κ' H' x cls d := by
  obtain ⟨C, ns, h1, h2, h3⟩ := h
  refine ⟨C, ns, h1, h2, ?_⟩
  cases q : x.fs with
  | nil => rw [q] at h3; exact h3
  | cons f r =>
    rw [q] at h3
    obtain ⟨dx, vs, e1, e2, e3, e4⟩ := h3
    exact ⟨dx, vs, e1, s.fr _ _ e2 (hk dx e1), e3, RepL.step s _ _ e4⟩
/-- behind a callee, its lists too -/
theorem Rel.truncL {κ0 : Kap} {H0 : Hp} {st0 : Sto} (r0 : Rel K T κ0 H0 st0) (s : Step κ0 H0 κ H) (r : Rel K T κ H st) : ∃ κ', Step κ0 H0 κ' H ∧ Rel K T κ' H (Fb.trunc st0.length st) ∧ (∀ (d : D) (v : V), Rep K T κ H d v → Rep K T κ' H d v) ∧ (∀ (l : List D) (v : List V), RepL K T κ H l v → RepL K T κ' H l v) := by
  unfold Fb.trunc
  by_cases q : (st.take st0.length).all (celOk st0.length) = true
  · rw [if_pos q]
    refine ⟨κ.take κ0.length, s.cut, ?_, fun d v h => Rep.less _ d v h, fun d v h => RepL.less _ d v h⟩
    rw [r0.len]
    exact r.less _ q
  · rw [if_neg q]
    exact ⟨κ, s, r, fun _ _ h => h, fun _ _ h => h⟩
/-- from what a call promises to what its body is to reach -/
theorem After.body {f : DS} {ps : Nat} {N : List Str} {args : List Val} {vs : List V} {Q : VK} {E : XK} (r : Rel K T κ H st) (rv : RepVals K T κ H args vs) (hp : ps ≤ N.length)
    (h : After K T (WK E) σ κ H (fnD ps N.length f args st) (PV K T Q)) : tS K T (WK E) f { nx := fun _ H' => Q .non H', rt := Q } (L2.start N vs) H := by
  unfold fnD at h
  by_cases hl : args.length = ps
  · rw [if_pos hl] at h
    refine ⟨κ, st, _, ⟨r, start_env rv (by have := rv.length; omega)⟩, ?_⟩
    cases q : f (args.map some ++ List.replicate (N.length - args.length) none) st with
    | nx e s' =>
      rw [q] at h
      intro σ' κ' H' t c
      obtain ⟨κ3, s3, r3, _⟩ := r.trunc t c.rel
      exact h κ3 H' s3 r3 .non rfl
    | rt v s' =>
      rw [q] at h
      cases v with
      | cell k => exact fun u κ' H' t c rv => h κ' H' t c u rv
      | d x =>
        intro u κ' H' t c rv
        obtain ⟨κ3, s3, r3, l3⟩ := r.trunc t c
        exact h κ3 H' s3 r3 u (l3 x u rv)
    | exc x e s' =>
      rw [q] at h
      intro σ' cls d κ' H' t c rx
      obtain ⟨κ3, s3, r3, _, l3⟩ := r.truncL t c.rel
      exact h cls d κ3 H' s3 r3 (rx.less l3)
    | bk e s' => rw [q] at h; exact h.elim
    | ct e s' => rw [q] at h; exact h.elim
    | stuck => rw [q] at h; exact h.elim
  · rw [if_neg hl] at h
    exact h.elim
end
/-! ### promises -/
abbrev Gn := List Val → List Val → M Val
def spG (K : PySem.W.Frag) (T : Tb) (G : Gn) (vs zs : List V) (H : Hp) (Q : VK) (E : XK) : Prop := ∃ κ st args kargs, Rel K T κ H st ∧ RepVals K T κ H args vs ∧ RepVals K T κ H kargs zs ∧ After K T (WK E) [] κ H (G args kargs st) (PV K T Q)
/-- the def at f, called with positional values and the keywords ks -/
def FnG (P : Program) (w : World) (K : PySem.W.Frag) (T : Tb) (mg : Str → Option Value) (base : Heap) (CX : CXT) (k : Nat) (f : Addr) (ks : List Str) (G : Gn) : Prop :=
  ∀ (A : Around) (outer : List Env) (s : Shared) (H : Hp) (us ws : List Value) (vs zs : List V) (Q : VK) (E : XK), Room k A → Env0 P w K mg base A outer s H → Vals vs us → Vals zs ws → zs.length = ks.length → spG K T G vs zs H Q E →
    codeAny (model P w) A (.call (.ref f) ⟨us, ks.zip ws⟩) (CR CX outer P w H s Q E) s
theorem FnG.mono {P : Program} {w : World} {K : PySem.W.Frag} {T : Tb} {mg : Str → Option Value} {base : Heap} {CX : CXT} {j k : Nat} {f : Addr} {ks : List Str} {G : Gn} (F : FnG P w K T mg base CX j f ks G) (h : j ≤ k) : FnG P w K T mg base CX k f ks G :=
  fun A outer s H us ws vs zs Q E hr => F A outer s H us ws vs zs Q E (hr.mono h)
def posG (g : List Val → M Val) (ds : List Val) : Gn := fun args kargs => if kargs.isEmpty then g (args ++ ds) else stk
/-- a def with positional parameters, the last of them by default -/
theorem fn_G {P : Program} {w : World} {K : PySem.W.Frag} {T : Tb} {mg : Str → Option Value} {base : Heap} {CX : CXT} {x qual : Str} {params : Arguments} {body : List Stmt} {scope : Scope} {dvs : List V} {kws : List (Str × V)} {f : Addr} {fd : FuncData} {N ps : List Str} {k : Nat} {fD : DS}
    {dl : List V} {dd : List Val} {dsv : List Value} (F : FunD K x qual params body scope dvs kws f fd) (S : FnScope N ps scope) (hb : Binds K fd ps dsv) (hd : Vals dl dsv) (hr : ∀ κ H, RepVals K T κ H dd dl)
    (hbody : ∀ (cdv : Value) (A : Around) (outer : List Env) (s : Shared) (H : Hp) (E : XK), Room k (A.deeper (envOfC qual scope s.heap.objs.size f cdv)) →
      PSs (cxOf CX P w K mg base N qual scope f cdv A outer s H E) body (tS K T (WK E) fD)) : FnG P w K T mg base CX (k + 1) f [] (posG (fnD ps.length N.length fD) dd) := by
  have hpl : ps.length ≤ N.length := by have := congrArg List.length S.pre; rw [List.length_take] at this; omega
  have fin : ∀ {vs zs : List V} {H : Hp} {Q : VK} {E : XK}, spG K T (posG (fnD ps.length N.length fD) dd) vs zs H Q E → ∃ κ st args, Rel K T κ H st ∧ RepVals K T κ H args (vs ++ dl) ∧ After K T (WK E) [] κ H (fnD ps.length N.length fD args st) (PV K T Q) := by
    rintro vs zs H Q E ⟨κ, st, args, kargs, r, rv, rz, a⟩
    unfold posG at a
    cases kargs with
    | cons _ _ => exact a.elim
    | nil => exact ⟨κ, st, args ++ dd, r, rv.app (hr κ H), a⟩
  have ok : FnOk P w K mg base CX (k + 1) f fd ps (fun vs H Q E => vs.length = ps.length ∧ ∃ κ st args, Rel K T κ H st ∧ RepVals K T κ H args vs ∧ After K T (WK E) [] κ H (fnD ps.length N.length fD args st) (PV K T Q)) :=
    F.ok S (fun vs H Q E h => h.1) fun cdv A outer s H vs Q E hr h => by
      obtain ⟨_, κ, st, args, r, rv, a⟩ := h
      exact ⟨_, hbody cdv A outer s H E hr, After.body r rv hpl a⟩
  intro A outer s H us ws vs zs Q E hrm e0 rv rz hz h
  obtain ⟨κ, st, args, r, rv', a⟩ := fin h
  have hl : (vs ++ dl).length = ps.length := by
    rw [← rv'.length]
    unfold fnD at a
    by_cases q : args.length = ps.length
    · exact q
    · rw [if_neg q] at a; exact a.elim
  have r2 : Vals (vs ++ dl) (us ++ dsv) := rv.append hd
  cases zs with
  | cons _ _ => cases hz
  | nil =>
    cases rz
    have KX : K.In s.heap := e0.mod.kin.keeps fun b o e => (e0.bs b o e).1
    have e : (us ++ dsv).length = ps.length := r2.length.symm.trans hl
    exact ok.run A outer s H ⟨us, []⟩ (us ++ dsv) (vs ++ dl) Q E hrm e0 (hb s us KX e) r2 ⟨hl, κ, st, args, r, rv', a⟩
/-! ### calls -/
section
variable {X : Cx} {T : Tb} {W : WX} {CX : CXT} {k : Nat} {f C : Addr} {G : Gn} {x m : Str} {p pos apos : Pos} {a e o : Expr} {es : List Expr} {df g : DE} {da dk : DA} {ks : List Str} {kws : List Keyword}
/-- the callee runs -/
theorem run_G {pins : List (Addr × Obj)} {σ : L2.St} {H : Hp} {s : Shared} {Q : VK} {us ws : List Value} {vs zs : List V} (F : FnG X.prog X.w X.K T X.mg X.base CX k f ks G) (hr : Room k X.A) (hx : PassesAt CX X σ (WE W σ))
    (I : Inv X pins σ H s) (r : Vals vs us) (rz : Vals zs ws) (hz : zs.length = ks.length) (h : spG X.K T G vs zs H Q (WE W σ)) : wpAny (model X.prog X.w) X.A (call (.ref f) us (ks.zip ws)) (EP X pins σ Q) X.xe s := by
  refine wpAny_call (codeAny_mono (F _ _ _ _ us ws vs zs Q _ hr I.env0 r rz hz h) ?_)
  rintro (e | fl) s' hq
  · exact hx pins H s e s' I hq
  · cases fl <;> first | exact I.after hq | exact False.elim hq
/-- a new instance is made and filled by __init__ -/
theorem run_mk {pins : List (Addr × Obj)} {σ : L2.St} {H : Hp} {s : Shared} {Q : VK} {us ws : List Value} {vs zs : List V} (M : Mk X.K C f) (F : FnG X.prog X.w X.K T X.mg X.base CX k f ks G) (hr : Room (k + 1) X.A) (hx : PassesAt CX X σ (WE W σ))
    (I : Inv X pins σ H s) (r : Vals vs us) (rz : Vals zs ws) (hz : zs.length = ks.length)
    (h : ∀ x dx, H x = none → H dx = none → dx ≠ x → spG X.K T G (.ref x :: vs) zs (upd (upd H dx (.own x)) x (.ins C dx [])) (fun v H2 => v = .non ∧ Q (.ref x) H2) (WE W σ)) :
    wpAny (model X.prog X.w) X.A (call (.ref C) us (ks.zip ws)) (EP X pins σ Q) X.xe s := by
  have nx := I.hok.fresh (Nat.le_succ s.heap.objs.size)
  have nd := I.hok.fresh (Nat.le_refl s.heap.objs.size)
  have I2 := Inv.made (C := C) I
  have go := F _ _ _ _ (Value.ref (s.heap.objs.size + 1) :: us) ws (V.ref (s.heap.objs.size + 1) :: vs) zs _ _ (hr.make C us (ks.zip ws)) (I2.env0.make C us (ks.zip ws)) (.cons rfl r) rz hz (h _ _ nx nd (Nat.ne_of_lt (Nat.lt_succ_self _)))
  refine wpAny_call (make_map (f := f) I.kIn M.makes M.init (beq_iff_eq.mp M.fn) (codeAny_mono go ?_))
  rintro (e | fl) s' hq
  · exact hx pins _ _ e s' I2 hq
  · cases fl with
    | ret u =>
      obtain ⟨v, H', I3, rv, ev, q3⟩ := I2.after hq
      subst ev
      exact ⟨rv, V.ref (s.heap.objs.size + 1), H', I3, rfl, q3⟩
    | next => exact hq.elim
    | brk => exact hq.elim
    | cont => exact hq.elim
/-- the arguments of a call -/
theorem tA_G {σ : L2.St} {H : Hp} {Q : VK} (h : tE X.K T W (fun e => bnd (da e) fun vs => G vs []) σ H Q) : tA X.K T W da σ H fun us H1 => spG X.K T G us [] H1 Q (WE W σ) := by
  obtain ⟨κ, st, env, c, a⟩ := h
  exact ⟨κ, st, env, c, a.bind.imp fun vs st1 κ1 H1 s1 e1 a1 us ru => ⟨κ1, st1, vs, [], e1, ru, rfl, a1.wish fun _ _ _ z => z⟩⟩
def dCallG (G : Gn) (a : DA) : DE := fun e => bnd (a e) fun vs => G vs []
theorem e_call (F : FnG X.prog X.w X.K T X.mg X.base CX k f [] G) (hr : Room k X.A) (hg : Gl X x) (hm : X.mg x = some (.ref f)) (hk : PySem.W.keepIn X.K (.ref f) = true) (hx : ∀ σ, PassesAt CX X σ (WE W σ))
    (ha : PA X (e :: es) (tA X.K T W da)) (hdb : (x == ("__debug__" : Str)) = false := by decide) (he : starEach (e :: es) X.env = (false, eval e X.env) :: starEach es X.env := by rfl) (hpl : (backTo pos (starEach es X.env)).any (·.1) = false := by rfl) :
    PE X (.Call (.Name x p) (e :: es) [] pos) (tE X.K T W (dCallG G da)) := ⟨fun pins s σ H Q I h => by
  refine wpAny_Call_Name_kw (ld_glob I hg hm ?_ hdb)
  refine PySem.W.callWith_K (h₀ := X.base) I.ok.mod.kin hk (thn (ha.run pos pins s σ H _ I (tA_G h)) ?_) he hpl
  rintro us s1 ⟨vs, H1, I1, r, q⟩
  exact ⟨I1.kIn, run_G F hr (hx σ) I1 r .nil rfl q⟩⟩
theorem e_call0 (F : FnG X.prog X.w X.K T X.mg X.base CX k f [] G) (hr : Room k X.A) (hg : Gl X x) (hm : X.mg x = some (.ref f)) (hk : PySem.W.keepIn X.K (.ref f) = true) (hx : ∀ σ, PassesAt CX X σ (WE W σ)) (hdb : (x == ("__debug__" : Str)) = false := by decide) :
    PE X (.Call (.Name x p) [] [] pos) (tE X.K T W (dCallG G dNil)) := ⟨fun pins s σ H Q I h => by
  obtain ⟨κ, st, env, c, a⟩ := tA_G h
  refine wpAny_Call_Name_kw (ld_glob I hg hm ?_ hdb)
  exact PySem.W.callWith_K0 I.kIn hk (run_G (us := []) F hr (hx σ) I .nil .nil rfl (After.done (Step.refl _ _) c.rel a [] rfl))⟩
/-! ### makes -/
/-- what stands in a cell at the end of __init__: every attribute in its place -/
def insOf : Nat → List (Nat × Val) → Option (List D)
  | _, [] => some []
  | n, (j, .d x) :: r => if j = n then (insOf (n + 1) r).map (x :: ·) else none
  | _, _ => none
/-- the instance is a tree where all it holds is one; keep: it stays a cell -/
def dMake (keep : Bool) (n : Nat) (c : Nat) (G : Gn) (vs ks : List Val) : M Val := fun s => match G (.cell s.length :: vs) ks (s ++ [some (.ins c [])]) with
  | .ok (.d .non) s' => if keep then .ok (.cell s.length) s' else (match s'[s.length]? with
    | some (some (.ins c' fs)) => (match insOf 0 fs with
      | some l => if c' = c ∧ l.length = n ∧ (s'.take s.length).all (celOk s.length) = true then .ok (.d (.ins c l)) (s'.take s.length) else .stuck
      | none => .stuck)
    | _ => .stuck)
  | .exc x s' => if (s'.take s.length).all (celOk s.length) = true then .exc x (s'.take s.length) else .exc x s'
  | _ => .stuck
theorem insOf_zip {K : PySem.W.Frag} {κ : Kap} {H : Hp} {ns : List Str} : ∀ {fs : List (Nat × Val)} {gs : List (Str × V)} {j : Nat} {l : List D}, insOf j fs = some l → FldsOk K T κ H ns fs gs →
    ∃ vs, gs = (ns.drop j).zip vs ∧ RepL K T κ H l vs ∧ j + l.length ≤ ns.length ∨ (l = [] ∧ gs = [] ∧ vs = [])
  | [], gs, j, l, h, r => by
    cases h
    exact ⟨[], .inr ⟨rfl, r, rfl⟩⟩
  | (i, v) :: fs, gs, j, l, h, ⟨n, u, t, e, hi, ru, rr⟩ => by
    cases v with
    | cell k => exact nomatch h
    | d x =>
      have h : (if i = j then (insOf (j + 1) fs).map (x :: ·) else none) = some l := h
      by_cases z : i = j
      · rw [if_pos z] at h
        subst z
        cases q : insOf (i + 1) fs with
        | none => rw [q] at h; cases h
        | some m =>
          rw [q] at h
          cases h
          obtain ⟨hlt, hn⟩ := List.getElem?_eq_some_iff.mp hi
          have hd : ns.drop i = n :: ns.drop (i + 1) := by rw [List.drop_eq_getElem_cons hlt, hn]
          obtain ⟨vs, h2 | h2⟩ := insOf_zip q rr
          · obtain ⟨e2, r2, l2⟩ := h2
            refine ⟨u :: vs, .inl ⟨?_, ⟨u, vs, rfl, ru, r2⟩, by rw [List.length_cons]; omega⟩⟩
            rw [e, hd, e2, List.zip_cons_cons]
          · obtain ⟨e1, e2, e3⟩ := h2
            refine ⟨[u], .inl ⟨?_, ⟨u, [], rfl, ru, by rw [e1]; rfl⟩, by rw [e1]; exact hlt⟩⟩
            rw [e, hd, e2, List.zip_cons_cons]
            simp
      · rw [if_neg z] at h; cases h
theorem mk_sp {σ : L2.St} {κ : Kap} {H : Hp} {st : Sto} {Q : VK} {c n : Nat} {keep : Bool} {ns : List Str} {args kargs : List Val} {vs zs : List V} (hc : T.ct c = some (C, ns)) (nd : ns.Nodup) (hn : ns.length = n) (r : Rel X.K T κ H st) (rv : RepVals X.K T κ H args vs) (rz : RepVals X.K T κ H kargs zs)
    (h : After X.K T W σ κ H (dMake keep n c G args kargs st) (PV X.K T Q)) (x dx : Addr) (hx : H x = none) (hd : H dx = none) (hne : dx ≠ x) :
    spG X.K T G (.ref x :: vs) zs (upd (upd H dx (.own x)) x (.ins C dx [])) (fun v H2 => v = .non ∧ Q (.ref x) H2) (WE W σ) := by
  have hx1 : upd H dx (.own x) x = none := by rw [upd_ne (fun z => hne z.symm)]; exact hx
  have s1 : Step κ H κ (upd H dx (.own x)) := Step.alloc hd
  have s2 : Step κ (upd H dx (.own x)) κ (upd (upd H dx (.own x)) x (.ins C dx [])) := Step.alloc hx1
  have r2 := (r.alloc (o := .own x) hd).alloc (o := .ins C dx []) hx1
  have s3 : Step κ H κ (upd (upd H dx (.own x)) x (.ins C dx [])) := s1.trans s2
  have hl : κ.length = st.length := r.len
  have nk : some x ∉ κ := r.out hx
  have s4 : Step κ H (κ ++ [some x]) (upd (upd H dx (.own x)) x (.ins C dx [])) := {
    len := by simp
    old := fun i a hi e => by rw [List.getElem?_append_left hi] at e; exact e
    new := fun i a hi e => by
      rw [List.getElem?_append_right hi] at e
      have : i - κ.length = 0 := by
        by_cases z : i - κ.length = 0
        · exact z
        · rw [List.getElem?_eq_none (by simp; omega)] at e; cases e
      rw [this] at e
      cases e
      exact hx
    fr := fun a o e m => s3.fr a o e m
    dom := s3.dom }
  have s5 : Step κ (upd (upd H dx (.own x)) x (.ins C dx [])) κ (upd (upd H dx (.own x)) x (.ins C dx [])) := Step.refl _ _
  -- what stood before stands
  have up : ∀ {κ0 : Kap} {H0 : Hp}, True := fun {_ _} => trivial
  have r3 : Rel X.K T (κ ++ [some x]) (upd (upd H dx (.own x)) x (.ins C dx [])) (st ++ [some (.ins c [])]) := {
    len := by simp [hl]
    inj := fun i j a hi hj => by
      have key : ∀ i, (κ ++ [some x])[i]? = some (some a) → (i < κ.length ∧ κ[i]? = some (some a)) ∨ (i = κ.length ∧ a = x) := fun i hi => by
        by_cases z : i < κ.length
        · rw [List.getElem?_append_left z] at hi; exact .inl ⟨z, hi⟩
        · rw [List.getElem?_append_right (by omega)] at hi
          by_cases z2 : i - κ.length = 0
          · rw [z2] at hi; cases hi; exact .inr ⟨by omega, rfl⟩
          · rw [List.getElem?_eq_none (by simp; omega)] at hi; cases hi
      rcases key i hi with ⟨h1, e1⟩ | ⟨h1, e1⟩ <;> rcases key j hj with ⟨h2, e2⟩ | ⟨h2, e2⟩
      · exact r.inj i j a e1 e2
      · rw [e2] at e1; exact absurd (List.mem_of_getElem? e1) nk
      · rw [e1] at e2; exact absurd (List.mem_of_getElem? e2) nk
      · omega
    cel := fun i a hi => by
      by_cases z : i < κ.length
      · rw [List.getElem?_append_left z] at hi
        obtain ⟨cl, h1, h2⟩ := r.cel i a hi
        refine ⟨cl, by rw [List.getElem?_append_left (by omega)]; exact h1, h2.step s4 ?_⟩
        have ha : a ≠ x := fun q => nk (by rw [← q]; exact List.mem_of_getElem? hi)
        have hb : a ≠ dx := fun q => r.out hd (by rw [← q]; exact List.mem_of_getElem? hi)
        rw [upd_ne ha, upd_ne hb]
      · rw [List.getElem?_append_right (by omega)] at hi
        by_cases z2 : i - κ.length = 0
        · rw [z2] at hi
          cases hi
          refine ⟨.ins c [], ?_, C, dx, ns, [], hc, nd, upd_same, rfl⟩
          rw [List.getElem?_append_right (by omega), show i - st.length = 0 by omega]
          rfl
        · rw [List.getElem?_eq_none (by simp; omega)] at hi; cases hi
    live := fun i cl hi => by
      by_cases z : i < st.length
      · rw [List.getElem?_append_left z] at hi
        obtain ⟨a, ha⟩ := r.live i cl hi
        exact ⟨a, by rw [List.getElem?_append_left (by omega)]; exact ha⟩
      · rw [List.getElem?_append_right (by omega)] at hi
        by_cases z2 : i - st.length = 0
        · exact ⟨x, by rw [List.getElem?_append_right (by omega), show i - κ.length = 0 by omega]; rfl⟩
        · rw [List.getElem?_eq_none (by simp; omega)] at hi; cases hi }
  have hself : ∀ {κ' : Kap} {H' : Hp}, Step (κ ++ [some x]) (upd (upd H dx (.own x)) x (.ins C dx [])) κ' H' → RepVal X.K T κ' H' (.cell st.length) (.ref x) := fun {κ' H'} t => by
    have hlt : st.length < κ'.length := by have := t.len; simp at this; omega
    refine ⟨κ'[st.length], List.getElem?_eq_getElem hlt, fun a ea => ?_⟩
    have := t.old st.length a (by simp; omega) (by rw [List.getElem?_eq_getElem hlt, ea])
    rw [List.getElem?_append_right (by omega), show st.length - κ.length = 0 by omega] at this
    cases this
    rfl
  refine ⟨κ ++ [some x], st ++ [some (.ins c [])], .cell st.length :: args, kargs, r3, ⟨.ref x, vs, rfl, hself (Step.refl _ _), RepVals.step s4 _ _ rv⟩, RepVals.step s4 _ _ rz, ?_⟩
  unfold dMake at h
  cases q : G (.cell st.length :: args) kargs (st ++ [some (.ins c [])]) with
  | stuck => rw [q] at h; exact h.elim
  | exc e s' =>
    rw [q] at h
    intro cls d κ' H' t rl rx
    have h : After X.K T W σ κ H (if (s'.take st.length).all (celOk st.length) = true then .exc e (s'.take st.length) else .exc e s') (PV X.K T Q) := h
    by_cases z : (s'.take st.length).all (celOk st.length) = true
    · rw [if_pos z] at h
      have rl2 := rl.less _ z
      rw [← hl] at rl2
      refine h cls d (κ'.take κ.length) H' (s4.trans t).cut ?_ (rx.less fun l v => RepL.less _ l v)
      rw [hl] at rl2 ⊢
      exact rl2
    · rw [if_neg z] at h
      exact h cls d κ' H' (s4.trans t) rl rx
  | ok v s' =>
    rw [q] at h
    cases v with
    | cell k => exact h.elim
    | d y =>
      cases y <;> first | exact h.elim | skip
      intro κ' H' t rl u ru
      refine ⟨ru, ?_⟩
      have h : After X.K T W σ κ H (if keep then .ok (.cell st.length) s' else (match s'[st.length]? with
        | some (some (.ins c' fs)) => (match insOf 0 fs with
          | some l => if c' = c ∧ l.length = n ∧ (s'.take st.length).all (celOk st.length) = true then .ok (.d (.ins c l)) (s'.take st.length) else .stuck
          | none => .stuck)
        | _ => .stuck)) (PV X.K T Q) := h
      cases keep with
      | true =>
        rw [if_pos rfl] at h
        exact h κ' H' (s4.trans t) rl _ (hself t)
      | false =>
        rw [if_neg Bool.false_ne_true] at h
        cases z : s'[st.length]? with
        | none => rw [z] at h; exact h.elim
        | some o =>
          rw [z] at h
          cases o with
          | none => exact h.elim
          | some cl =>
            cases cl with
            | lst l => exact h.elim
            | dic t l => exact h.elim
            | ins c' fs =>
              have h : After X.K T W σ κ H (match insOf 0 fs with
                | some l => if c' = c ∧ l.length = n ∧ (s'.take st.length).all (celOk st.length) = true then .ok (.d (.ins c l)) (s'.take st.length) else .stuck
                | none => .stuck) (PV X.K T Q) := h
              cases z2 : insOf 0 fs with
              | none => rw [z2] at h; exact h.elim
              | some l =>
                rw [z2] at h
                have h : After X.K T W σ κ H (if c' = c ∧ l.length = n ∧ (s'.take st.length).all (celOk st.length) = true then .ok (.d (.ins c l)) (s'.take st.length) else .stuck) (PV X.K T Q) := h
                by_cases z3 : c' = c ∧ l.length = n ∧ (s'.take st.length).all (celOk st.length) = true
                · rw [if_pos z3] at h
                  obtain ⟨ec, el, ez⟩ := z3
                  subst ec
                  obtain ⟨a, ex, hk, C', dx', ns', gs, g1, g2, g3, g4⟩ := rl.addr z (hself t)
                  cases ex
                  rw [hc] at g1
                  cases g1
                  have rl2 := rl.less _ ez
                  have hout : some x ∉ κ'.take st.length := fun hm => by
                    obtain ⟨i, hi⟩ := List.mem_iff_getElem?.mp hm
                    obtain ⟨hi1, hi2⟩ := getElem?_take_some hi
                    have := rl.inj i st.length x hi2 hk
                    omega
                  have sp := (s4.trans t).cut
                  rw [hl] at sp
                  refine h _ H' sp rl2 _ ?_
                  obtain ⟨ws, k1 | k1⟩ := insOf_zip z2 g4
                  · obtain ⟨e1, e2, e3⟩ := k1
                    have e4 := RepL.length e2
                    exact ⟨x, C, dx', ns, ws, rfl, hout, hc, by rw [g3, e1]; rfl, by omega, RepL.less _ l ws e2⟩
                  · obtain ⟨e1, e2, e3⟩ := k1
                    subst e1 e2
                    refine ⟨x, C, dx', ns, [], rfl, hout, hc, by rw [g3]; simp, ?_, rfl⟩
                    exact hn.trans el.symm
                · rw [if_neg z3] at h; exact h.elim
def dMakeE (keep : Bool) (n c : Nat) (G : Gn) (a : DA) : DE := fun e => bnd (a e) fun vs => dMake keep n c G vs []
def dMakeK (keep : Bool) (n c : Nat) (G : Gn) (a b : DA) : DE := fun e => bnd (a e) fun vs => bnd (b e) fun ks => dMake keep n c G vs ks
theorem e_make {c n : Nat} {keep : Bool} {ns : List Str} (hc : T.ct c = some (C, ns)) (nd : ns.Nodup) (hn : ns.length = n) (M : Mk X.K C f) (F : FnG X.prog X.w X.K T X.mg X.base CX k f [] G) (hr : Room (k + 1) X.A) (hg : Gl X x) (hm : X.mg x = some (.ref C))
    (hx : ∀ σ, PassesAt CX X σ (WE W σ)) (ha : PA X (e :: es) (tA X.K T W da)) (hdb : (x == ("__debug__" : Str)) = false := by decide) (he : starEach (e :: es) X.env = (false, eval e X.env) :: starEach es X.env := by rfl) (hpl : (backTo pos (starEach es X.env)).any (·.1) = false := by rfl) :
    PE X (.Call (.Name x p) (e :: es) [] pos) (tE X.K T W (dMakeE keep n c G da)) := ⟨fun pins s σ H Q I ⟨κ, st, env, cf, a⟩ => by
  refine wpAny_Call_Name_kw (ld_glob I hg hm ?_ hdb)
  have q : tA X.K T W da σ H fun us H1 => ∀ y dx, H1 y = none → H1 dx = none → dx ≠ y → spG X.K T G (.ref y :: us) [] (upd (upd H1 dx (.own y)) y (.ins C dx [])) (fun v H2 => v = .non ∧ Q (.ref y) H2) (WE W σ) :=
    ⟨κ, st, env, cf, a.bind.imp fun vs st1 κ1 H1 s1 e1 a1 us ru y dx h1 h2 h3 => mk_sp hc nd hn e1 ru (kargs := []) rfl a1 y dx h1 h2 h3⟩
  refine PySem.W.callWith_K (h₀ := X.base) I.ok.mod.kin M.kp (thn (ha.run pos pins s σ H _ I q) ?_) he hpl
  rintro us s1 ⟨vs, H1, I1, r, q⟩
  exact ⟨I1.kIn, run_mk M F hr (hx σ) I1 r .nil rfl q⟩⟩
theorem k_nil : PK X [] (tA X.K T W dNil) := ⟨fun pos pins s σ H Q I ⟨κ, st, env, c, a⟩ => pk_nil.run pos pins s σ H Q I (After.done (Step.refl _ _) c.rel a [] rfl)⟩
theorem k_cons {nm : Option Str} {kp : Pos} (ha : PE X a (tE X.K T W df)) (hr : PK X kws (tA X.K T W dk)) : PK X (⟨nm, a, kp⟩ :: kws) (tA X.K T W (dCons df dk)) := ⟨fun pos pins s σ H Q I ⟨κ, st, env, c, h⟩ =>
  (pk_cons ha hr).run pos pins s σ H Q I ⟨κ, st, env, c, h.bind.imp fun v st1 κ1 H1 s1 e1 a1 x rx => ⟨κ1, st1, env, c.step s1 e1, a1.bind.imp fun vs st2 κ2 H2 s2 e2 a2 xs rxs =>
    After.retd e2 a2 (x :: xs) ⟨x, xs, rfl, RepVal.step s2 v x rx, rxs⟩⟩⟩⟩
theorem e_makeK {c n : Nat} {keep : Bool} {ns : List Str} (hc : T.ct c = some (C, ns)) (nd : ns.Nodup) (hn : ns.length = n) (M : Mk X.K C f) (F : FnG X.prog X.w X.K T X.mg X.base CX k f ks G) (hr : Room (k + 1) X.A) (hg : Gl X x) (hm : X.mg x = some (.ref C))
    (hx : ∀ σ, PassesAt CX X σ (WE W σ)) (ha : PA X (e :: es) (tA X.K T W da)) (hkw : PK X kws (tA X.K T W dk)) (hzl : kws.length = ks.length) (hall : (backToKw pos (keywordEach kws X.env)).all (·.1.isSome) = true := by rfl) (hks : (backToKw pos (keywordEach kws X.env)).filterMap (·.1) = ks := by rfl)
    (hdb : (x == ("__debug__" : Str)) = false := by decide) (he : starEach (e :: es) X.env = (false, eval e X.env) :: starEach es X.env := by rfl)
    (hpl : ((backTo pos (starEach (e :: es) X.env)).any (·.1) || (backToKw pos (keywordEach kws X.env)).any (·.1.isNone)) = false := by rfl) (hdl : ∀ env st vs s', dk env st = .ok vs s' → vs.length = kws.length) :
    PE X (.Call (.Name x p) (e :: es) kws pos) (tE X.K T W (dMakeK keep n c G da dk)) := ⟨fun pins s σ H Q I ⟨κ, st, env, cf, a⟩ => by
  refine wpAny_Call_Name_kw (ld_glob I hg hm ?_ hdb)
  have q : tA X.K T W da σ H fun us H1 => tA X.K T W dk σ H1 fun zs H2 => zs.length = ks.length ∧ ∀ y dx, H2 y = none → H2 dx = none → dx ≠ y → spG X.K T G (.ref y :: us) zs (upd (upd H2 dx (.own y)) y (.ins C dx [])) (fun v H2 => v = .non ∧ Q (.ref y) H2) (WE W σ) := by
    refine ⟨κ, st, env, cf, a.bind.imp fun vs st1 κ1 H1 s1 e1 a1 us ru => ⟨κ1, st1, env, cf.step s1 e1, ?_⟩⟩
    have b := a1.bind
    cases z : dk env st1 with
    | stuck => rw [z] at b; exact b.elim
    | exc x s' => rw [z] at b; exact b
    | ok kv s' =>
      rw [z] at b
      have hle := hdl _ _ _ _ z
      exact fun κ2 H2 s2 e2 zs rz => ⟨by rw [← rz.length, hle, hzl], fun y dx h1 h2 h3 => mk_sp hc nd hn e2 (RepVals.step s2 _ _ ru) rz (b κ2 H2 s2 e2) y dx h1 h2 h3⟩
  refine PySem.W.callWith_KW (h₀ := X.base) I.ok.mod.kin M.kp hall (thn (ha.run pos pins s σ H _ I q) fun us s1 ⟨vs, H1, I1, r, q⟩ => ?_) hpl he
  refine thn (hkw.run pos pins s1 σ H1 _ I1 q) ?_
  rintro ws s2 ⟨zs, H2, I2, rz, l2, q2⟩
  refine ⟨I2.kIn, ?_⟩
  rw [hks]
  exact run_mk M F hr (hx σ) I2 r rz l2 q2⟩
end
end Fb
/-! FbI0 -/
/-! FbI0: the items of a locked dict whose keys are tuples. -/
namespace Fb
open PySem PySem.Spec PyProof.Rows L2
section
variable {X : Cx} {pins : List (Addr × Obj)} {σ : L2.St} {H : Hp} {s : Shared} {d : Addr} {o : Obj}
/-- its entries -/
theorem frzT_all {kvs : List (List Key × V)} (I : Inv X pins σ H s) (h : H d = some (.frz o (.dT kvs))) :
    (d == sysModules) = false ∧ kvs.length ≤ sizeLine ∧ ∃ (es : Array DictEntry) (ep : Nat), o.data = .dict es ep ∧ s.heap.DictRaw d es ep ∧ es.size = kvs.length ∧
      ∀ (i : Nat) (k : List Key) (v : V), kvs[i]? = some (k, v) → ∃ (en : DictEntry) (q : Addr), es[i]? = some en ∧ en.key = .ref q ∧ H q = some (.tup (k.map kV)) ∧ RelV v en.val := by
  obtain ⟨hd, z, hs, xs, pr, o1, es, ep, ho, hx, hdt, he, _⟩ := I.hok d _ h
  rw [hd] at ho
  cases ho
  have l2 : kvs.length = xs.length := Paired.length pr
  refine ⟨hs, z, es, ep, hdt, ⟨o, hd, hx, hdt⟩, (size_of_entries he).trans l2.symm, fun i k v e => ?_⟩
  obtain ⟨b, hb, e1, e2, e3⟩ := paired_get pr e
  have q := entry_at he i
  rw [hb] at q
  exact ⟨_, b.2.1, q, rfl, e2, e3⟩
/-- the pairs of a locked dict with tuples as keys, each pair a new tuple -/
def ItiT (d : Addr) (o : Obj) (kvs : List (List Key × V)) : It where
  go := fun i H => H d = some (.frz o (.dT kvs)) ∧ i < kvs.length
  yld := fun i H x H2 => ∃ (T q : Addr) (k : List Key) (v : V), kvs[i]? = some (k, v) ∧ x = .ref T ∧ H q = some (.tup (k.map kV)) ∧ H T = none ∧ H2 = upd H T (.tup [.ref q, v])
  stop := fun i H => H d = some (.frz o (.dT kvs)) ∧ kvs.length ≤ i
theorem turn_itemsT {P : Program} {w : World} {K : PySem.W.Frag} {kvs : List (List Key × V)} {elts : List Expr} {kk ep : Nat} {tpos : Pos} {es : Array DictEntry} (it : Addr) (hod : o.data = .dict es ep) :
    Turn P w K (.Tuple elts kk tpos) (ItiT d o kvs) [it] it (fun i h => ∃ ok ov, IsItemIter h it d i kvs.length ep ok ov) where
  mem := List.mem_singleton.mpr rfl
  obj := by
    rintro i h ⟨ok, ov, e⟩ b hb
    cases List.mem_singleton.mp hb
    exact ⟨_, e, fun v z => nomatch z⟩
  keep := by
    rintro i h h' ⟨ok, ov, e⟩ k
    exact ⟨ok, ov, k it (List.mem_singleton.mpr rfl) _ e⟩
  item := by
    intro X hP hw hK hc i pins s σ H E I hf st ⟨hd, hi⟩
    subst hP hw hK
    obtain ⟨hs, hz, es', ep', hdt, raw, hsz, ent⟩ := frzT_all I hd
    obtain ⟨rfl, rfl⟩ := dict_ep hod hdt
    obtain ⟨⟨k, v⟩, hkv⟩ : ∃ p, kvs[i]? = some p := ⟨kvs[i], List.getElem?_eq_getElem hi⟩
    obtain ⟨en, q, hen, hkey, hq, rv⟩ := ent i k v hkv
    have hie : i < es'.size := by omega
    have een : es'[i] = en := by
      rw [Array.getElem?_eq_getElem hie] at hen
      exact Option.some.inj hen
    obtain ⟨ok, ov, he⟩ := st
    rw [← hsz] at he
    have hlt : it < s.heap.objs.size := Heap.lt_size he
    refine wpAny_pyNext_items_item_raw he raw hie fun h1 ho hT hz1 hk => ?_
    rw [een, hkey] at ho hT
    refine ⟨_, rfl, wpAny_letOwnedTupleGo_items (s := { s with heap := h1 }) ho fun h2 he2 sb => ?_⟩
    have hT2 : h2.get? s.heap.objs.size = some { cls := .type "tuple", data := .seq #[.ref q, en.val] } := (sb.2 _ (Nat.ne_of_gt hlt)).trans hT
    have new : ObjOk X.prog X.w (upd H s.heap.objs.size (.tup [.ref q, v])) h2 s.heap.objs.size (.tup [.ref q, v]) :=
      ⟨by show 2 ≤ sizeLine; decide, [.ref q, en.val], .cons rfl (.cons rv .nil), _, hT2, rfl, _, rfl⟩
    have I1 : Inv X pins σ (upd H s.heap.objs.size (.tup [.ref q, v])) { s with heap := h2 } := by
      refine I.turnedNew (t' := s.toks) (ch := [it]) (fun b ob hb e => ?_) hf (Nat.le_refl _) new
      have nb : b ≠ it := fun z => hb (List.mem_singleton.mpr z)
      exact (sb.2 b nb).trans (hk b ob nb e)
    refine ⟨.ref s.heap.objs.size, _, I1, rfl, ⟨_, q, k, v, hkv, rfl, hq, I.hok.fresh (Nat.le_refl _), rfl⟩, ⟨.ref q, en.val, ?_⟩, fun b hb => ?_⟩
    · rw [← hsz]; exact he2
    · cases List.mem_singleton.mp hb
      rw [upd_ne (Nat.ne_of_lt hlt)]
      exact (hf it hb).1
  done := by
    intro X hP hw hK hc i pins s σ H E I hf st ⟨hd, hi⟩
    subst hP hw hK
    obtain ⟨f0, f1, f2, f3, f4, f5⟩ := hf it (List.mem_singleton.mpr rfl)
    obtain ⟨hs, hz, es', ep', hdt, raw, hsz, ent⟩ := frzT_all I hd
    obtain ⟨rfl, rfl⟩ := dict_ep hod hdt
    obtain ⟨ok, ov, he⟩ := st
    rw [← hsz] at he
    exact wpAny_pyNext_items_end_raw (I.ok.hd hc) he raw (by omega) fun h1 eb => ⟨rfl, I.turned (t' := s.toks) (fun b ob hb e => eb b ob hb e) f0 f1 f3 f4 f5⟩
  self := fun A i s Q E ⟨_, _, e⟩ h => PySem.W.kcp_self e h
/-- for a, b in d.items(), d locked, its keys tuples -/
theorem pi_itemsT {e : Expr} {td : TE} {apos cpos : Pos} {elts : List Expr} {kk : Nat} {tpos : Pos} (he : PE X e td) (hbase : attributeBase e "items" X.env (eval e X.env) = eval e X.env := by rfl) (hline : (apos.endLine == cpos.line) = true := by rfl) :
    PI X (.Tuple elts kk tpos) (.Call (.Attribute e "items" apos) [] [] cpos) (fun σ H R => td σ H fun x H1 => ∃ d o kvs, x = .ref d ∧ H1 d = some (.frz o (.dT kvs)) ∧ R (ItiT d o kvs) H1) := by
  constructor
  intro pins s σ H R I h
  refine wpAny_Call_method (T := "dict") (id := "dict.items") hbase rfl hline F.plainAttrs_dict F.slot_dict_items F.type_dict_items (thn (he.run pins s σ H _ I h) ?_)
  rintro u s1 ⟨x, H1, I1, rx, d, o, kvs, ex, hd, q⟩
  subst ex
  obtain rfl : u = Value.ref d := rx
  obtain ⟨hs, hz, es, ep, hdt, raw, hsz, ent⟩ := frzT_all I1 hd
  refine ⟨raw.typeIs, ?_, ?_⟩
  · intro b eb
    cases eb
    obtain ⟨o', ho', hx', hd'⟩ := raw
    exact ⟨o', ho', hx'.2.1⟩
  · have I2 : Inv X pins σ H1 { s1 with heap := s1.heap.push { cls := .type "dict_items", data := .fields #[.ref d] } } := I1.kept (t' := s1.toks) fun b ob q => Heap.get?_push_of_some _ q
    have fin : wpAny (model X.prog X.w) X.A (pyIter (.ref s1.heap.objs.size)) (PIE X pins σ (.Tuple elts kk tpos) R) X.xe { s1 with heap := s1.heap.push { cls := .type "dict_items", data := .fields #[.ref d] } } := by
      refine wpAny_pyIter_items_raw (d := d) ⟨_, Heap.get?_push_size _ rfl, rfl, rfl⟩ (raw.at fun ob q => Heap.get?_push_of_some _ q) (pi_one (tk := s1.toks) I2 _ (turn_itemsT _ hdt) ⟨.none, .none, ?_⟩ q)
      rw [← hsz]
      exact Heap.get?_push_size _ rfl
    show wpAny _ _ (callWith cpos (.builtin "dict.items") [.ref d] [] []) _ X.xe s1
    exact method_meetsIn F.slot_dict_items F.entry_dict_items rfl (PySem.evalArgs_none ⟨rfl, raw.typeIs, F.args_dict_items_1 _, _, meets_dict_items_raw d hs, ⟨es, ep, raw⟩, fin⟩)
end
end Fb
/-! FbI -/
/-! FbI: what is walked; for; comprehensions. -/
namespace Fb
open PySem PySem.Spec PyProof.Rows L2
inductive Src where
  | its (l : List D) | cel (k : Nat)
def cur : Src → Nat → Sto → Option (Option D)
  | .its l, i, _ => some l[i]?
  | .cel k, i, st => match st[k]? with
    | some (some (.lst l)) => some l[i]?
    | _ => none
def fuelOf : Src → Nat
  | .its l => l.length + 1
  | .cel _ => 100000
abbrev DI := DEnv → M Src
def chars (z : Str) : List D := z.cps.toList.map fun c => .str ⟨#[c]⟩
def srcOf : Val → M Src
  | .d (.lst l) => ret (.its l)
  | .d (.arr l) => ret (.its (l.map .int))
  | .d (.tup l) => ret (.its l)
  | .d (.dic _ l) => ret (.its (l.map (·.1)))
  | .d (.str z) => ret (.its (chars z))
  | .cell k => fun st => match st[k]? with
    | some (some (.lst _)) => .ok (.cel k) st
    | _ => .stuck
  | _ => stk
def iSeq (f : DE) : DI := fun e => bnd (f e) srcOf
def pairs (l : List (D × D)) : List D := l.map fun p => .tup [p.1, p.2]
def iItems (f : DE) : DI := fun e => bnd (f e) fun v => match v with
  | .d (.dic _ l) => ret (.its (pairs l))
  | _ => stk
def upto (lo : Int) (n : Nat) : List D := (List.range n).map fun i => .int (lo + (i : Nat))
def rng1 : List Val → M Src
  | [.d (.int j)] => if -(2 ^ 62) ≤ j ∧ j < 2 ^ 62 then ret (.its (upto 0 j.toNat)) else stk
  | _ => stk
def rng2 : List Val → M Src
  | [.d (.int i), .d (.int j)] => if -(2 ^ 62) ≤ i ∧ i < 2 ^ 62 ∧ -(2 ^ 62) ≤ j ∧ j < 2 ^ 62 then ret (.its (upto i (j - i).toNat)) else stk
  | _ => stk
def iRange1 (a : DA) : DI := fun e => bnd (a e) rng1
def iRange2 (a : DA) : DI := fun e => bnd (a e) rng2
abbrev DG := D → DEnv → Option DEnv
def tgN (i : Nat) : DG := fun d e => some (e.set i (some (.d d)))
def tgT (is : List Nat) : DG := fun d e => match d with
  | .tup l => if l.length = is.length then some (setAll e (is.zip (l.map .d))) else none
  | _ => none
def forD (g : DG) (p : DS) : Nat → Src → Nat → DS
  | 0, _, _ => sNever
  | n + 1, s, i => fun e st => match cur s i st with
    | none => .stuck
    | some none => .nx e st
    | some (some d) => match g d e with
      | none => .stuck
      | some e1 => match p e1 st with
        | .nx e' s' => forD g p n s (i + 1) e' s'
        | .ct e' s' => forD g p n s (i + 1) e' s'
        | .bk e' s' => .nx e' s'
        | r => r
def forS (src : DI) (g : DG) (p : DS) : DS := fun e => bndE (src e) e fun s st => forD g p (fuelOf s) s 0 e st
def noX {α : Type} (m : M α) : M α := fun s => match m s with
  | .exc _ _ => .stuck
  | r => r
def pushC (k : Nat) (x : D) : M Unit := fun st => match st[k]? with
  | some (some (.lst l)) => if l.length < 1000000 then .ok () (st.set k (some (.lst (l ++ [x])))) else .stuck
  | _ => .stuck
def putC (k : Nat) (x y : D) : M Unit := fun st => match st[k]? with
  | some (some (.dic t l)) => if isKey t x ∧ l.length < 1000000 then .ok () (st.set k (some (.dic t (put x y l)))) else .stuck
  | _ => .stuck
def wipeD (e : DEnv) : List Nat → DEnv
  | [] => e
  | v :: vs => (wipeD e vs).set v none
/-- the turns of a comprehension; ad: what a turn adds -/
def turnM (g : DG) (t : DT) (yes : DEnv → M Unit) (no : M Unit) (e : DEnv) : Option (Option D) → M Unit
  | none => stk
  | some none => ret ()
  | some (some d) => match g d e with
    | none => stk
    | some e1 => bnd (noX (t e1)) fun b => if b then yes e1 else no
def lcD (g : DG) (t : DT) (ad : DEnv → M Unit) : Nat → Src → Nat → DEnv → M Unit
  | 0, _, _, _ => stk
  | n + 1, s, i, e => fun st => turnM g t (fun e1 => bnd (ad e1) fun _ => lcD g t ad n s (i + 1) e) (lcD g t ad n s (i + 1) e) e (cur s i st) st
def dropTo (k : Nat) : M Val := fun st => match st[k]? with
  | some (some (.lst l)) => if (st.take k).all (celOk k) = true then .ok (.d (.lst l)) (st.take k) else .stuck
  | some (some (.dic t l)) => if (st.take k).all (celOk k) = true then .ok (.d (.dic t l)) (st.take k) else .stuck
  | _ => .stuck
def addL (el : DE) (k : Nat) : DEnv → M Unit := fun e => bnd (noX (el e)) fun v => bnd (plain v) fun x => pushC k x
def addD (ky vl : DE) (k : Nat) : DEnv → M Unit := fun e => bnd (noX (ky e)) fun v => bnd (noX (vl e)) fun u => bnd (plain v) fun x => bnd (plain u) fun y => putC k x y
/-- a list just made: a tree, or it stays a cell -/
def dropL (k : Nat) : M Val := fun st => match st[k]? with
  | some (some (.lst l)) => if (st.take k).all (celOk k) = true then .ok (.d (.lst l)) (st.take k) else .stuck
  | _ => .stuck
def finL (keep : Bool) (k : Nat) : M Val := if keep then ret (.cell k) else dropL k
def comp (src : DI) (g : DG) (t : DT) (c : Cel) (ad : Nat → DEnv → M Unit) (vs : List Nat) (fin : Nat → M Val) : DE := fun e => bnd (src e) fun s => bnd (newCell c) fun v => match v with
  | .cell k => bnd (lcD g t (ad k) (fuelOf s) s 0 (wipeD e vs)) fun _ => fin k
  | _ => stk
def dLc (src : DI) (g : DG) (t : DT) (el : DE) (vs : List Nat) (keep : Bool) : DE := comp src g t (.lst []) (addL el) vs (finL keep)
def dDc (kt : Bool) (src : DI) (g : DG) (t : DT) (ky vl : DE) (vs : List Nat) : DE := comp src g t (.dic kt []) (addD ky vl) vs dropTo
def tYs : DT := fun _ => ret true
/-! ### sources -/
section
variable (K : PySem.W.Frag) (T : Tb) (W : WX)
def Wk (J : It) (κ : Kap) (H : Hp) (s : Src) : Prop := ∀ κ' H' st', Step κ H κ' H' → Rel K T κ' H' st' → ∀ i o, cur s i st' = some o → match o with
  | none => J.stop i H'
  | some d => J.go i H' ∧ ∀ x H2, J.yld i H' x H2 → Step κ' H' κ' H2 ∧ Rel K T κ' H2 st' ∧ Rep K T κ' H2 d x
def tI (f : DI) : TI := fun σ H R => ∃ κ st env, Cf K T σ κ H st env ∧ After K T W σ κ H (f env st) fun s _ κ' H' => ∀ J, Wk K T J κ' H' s → R J H'
def tG (is : List Nat) (g : DG) : TG := fun x σ H Q => ∃ κ st env d e', Cf K T σ κ H st env ∧ Rep K T κ H d x ∧ g d env = some e' ∧ ∀ σ', Cf K T σ' κ H st e' → (∀ vs : List Nat, (∀ i ∈ is, i ∈ vs) → wipe σ' vs = wipe σ vs) → Q σ' H
end
theorem pi_imp {X : Cx} {tg e : Expr} {t t' : TI} (h : PI X tg e t) (i : ∀ σ H Q, t' σ H Q → t σ H Q) : PI X tg e t' := ⟨fun pins s σ H Q I q => h.run pins s σ H Q I (i σ H Q q)⟩
theorem pg_imp {X : Cx} {tg : Expr} {t t' : TG} (h : PG X tg t) (i : ∀ x σ H Q, t' x σ H Q → t x σ H Q) : PG X tg t' := ⟨fun pins s σ H v u Q I r q => h.run pins s σ H v u Q I r (i v σ H Q q)⟩
section
variable {K : PySem.W.Frag} {T : Tb} {W : WX} {σ : L2.St} {κ κ' : Kap} {H H' : Hp} {st st' : Sto} {env : DEnv}
theorem RepL.get' {l : List D} {xs : List V} (r : RepL K T κ H l xs) (i : Nat) : (∀ d, l[i]? = some d → ∃ x, xs[i]? = some x ∧ Rep K T κ H d x) ∧ (l[i]? = none → xs.length ≤ i) :=
  ⟨fun d h => r.get h, fun h => by rw [← RepL.length r]; exact List.getElem?_eq_none_iff.mp h⟩
theorem wk_seq {J : It} {l : List D} {P : Hp → List V → Prop} (hs : ∀ κ' H', Step κ H κ' H' → ∃ xs, P H' xs ∧ RepL K T κ' H' l xs)
    (h1 : ∀ H xs i x, P H xs → xs[i]? = some x → J.go i H) (h2 : ∀ H xs i, P H xs → xs.length ≤ i → J.stop i H) (h3 : ∀ H xs i x H2, P H xs → J.yld i H x H2 → H2 = H ∧ xs[i]? = some x) : Wk K T J κ H (.its l) := by
  intro κ' H' st' s r i o h
  obtain ⟨xs, p, rl⟩ := hs κ' H' s
  cases o with
  | none => exact h2 H' xs i p ((rl.get' i).2 (Option.some.inj h))
  | some d =>
    obtain ⟨x, ex, rx⟩ := (rl.get' i).1 d (Option.some.inj h)
    refine ⟨h1 H' xs i x p ex, fun y H2 hy => ?_⟩
    obtain ⟨e1, e2⟩ := h3 H' xs i y H2 p hy
    subst e1
    rw [ex] at e2
    cases e2
    exact ⟨Step.refl _ _, r, rx⟩
theorem sqL_uniq_obj {a : Addr} {xs ys : List V} (h : H a = some (.lst xs)) (h' : Rd H a (.lst ys)) : ys = xs := by
  rcases h' with h' | ⟨o, h'⟩ <;> (rw [h] at h'; cases h'; try rfl)
end
section
variable {K : PySem.W.Frag} {T : Tb} {κ : Kap} {H : Hp} {st : Sto}
theorem RepPK.get : ∀ {l : List (D × D)} {kvs : List (Key × V)} {i : Nat} {p : D × D}, RepPK K T κ H l kvs → l[i]? = some p → ∃ kk x, kvs[i]? = some (kk, x) ∧ keyK p.1 = some kk ∧ Rep K T κ H p.2 x
  | [], _, _, _, _, h => by simp at h
  | (k, d) :: r, _, 0, _, ⟨kk, x, t, e, hk, h1, _⟩, h => by simp at h; subst h; subst e; exact ⟨kk, x, rfl, hk, h1⟩
  | (k, d) :: r, _, i + 1, _, ⟨kk, x, t, e, _, _, h2⟩, h => by
    subst e
    obtain ⟨k2, y, h3, h4⟩ := RepPK.get (i := i) h2 (by simpa using h)
    exact ⟨k2, y, by simpa using h3, h4⟩
theorem RepPT.get : ∀ {l : List (D × D)} {kvs : List (List Key × V)} {i : Nat} {p : D × D}, RepPT K T κ H l kvs → l[i]? = some p → ∃ kk x, kvs[i]? = some (kk, x) ∧ keyT p.1 = some kk ∧ Rep K T κ H p.2 x
  | [], _, _, _, _, h => by simp at h
  | (k, d) :: r, _, 0, _, ⟨kk, x, t, e, hk, h1, _⟩, h => by simp at h; subst h; subst e; exact ⟨kk, x, rfl, hk, h1⟩
  | (k, d) :: r, _, i + 1, _, ⟨kk, x, t, e, _, _, h2⟩, h => by
    subst e
    obtain ⟨k2, y, h3, h4⟩ := RepPT.get (i := i) h2 (by simpa using h)
    exact ⟨k2, y, by simpa using h3, h4⟩
theorem key_back {d : D} {k : Key} (h : keyK d = some k) : Rep K T κ H d (kV k) := by
  cases d <;> cases h <;> exact rfl
theorem keys_back : ∀ {l : List D} {ks : List Key}, keyKs l = some ks → RepL K T κ H l (ks.map kV)
  | [], _, h => by cases h; exact rfl
  | d :: l, _, h => by
    unfold keyKs at h
    split at h
    · rename_i k ts e1 e2
      cases h
      exact ⟨_, _, rfl, key_back e1, keys_back e2⟩
    · cases h
theorem Rel.noTup (r : Rel K T κ H st) {q : Addr} {xs : List V} (h : H q = some (.tup xs)) : some q ∉ κ := fun hm => by
  obtain ⟨i, hi⟩ := List.mem_iff_getElem?.mp hm
  obtain ⟨c, _, ok⟩ := r.cel i q hi
  cases c with
  | lst l => obtain ⟨xs, e, _⟩ := ok; rw [h] at e; cases e
  | dic t l => cases t <;> (obtain ⟨xs, e, _⟩ := ok; rw [h] at e; cases e)
  | ins c fs => obtain ⟨_, _, _, _, _, _, e, _⟩ := ok; rw [h] at e; cases e
theorem keyT_back {d : D} {k : List Key} {q : Addr} (r : Rel K T κ H st) (h : keyT d = some k) (hq : H q = some (.tup (k.map kV))) : Rep K T κ H d (.ref q) := by
  cases d <;> first | (cases h; done) | skip
  exact ⟨q, _, rfl, .inl ⟨r.noTup hq, hq⟩, keys_back h⟩
end
/-! ### targets -/
theorem wipe_set {v : Option V} : ∀ {vs : List Nat} {σ : L2.St} {i : Nat}, i ∈ vs → wipe (σ.set i v) vs = wipe σ vs
  | [], _, _, h => nomatch h
  | j :: vs, σ, i, h => by
    unfold wipe
    by_cases hi : i ∈ vs
    · rw [wipe_set hi]
    · have e : i = j := by
        rcases List.mem_cons.mp h with z | z
        · exact z
        · exact absurd z hi
      subst e
      have out : ∀ {vs : List Nat} {σ : L2.St}, i ∉ vs → wipe (σ.set i v) vs = (wipe σ vs).set i v := by
        intro vs
        induction vs with
        | nil => intro σ _; rfl
        | cons k ks ih =>
          intro σ hk
          unfold wipe
          rw [ih fun z => hk (List.mem_cons_of_mem _ z)]
          exact List.set_comm _ _ (fun z => hk (by rw [z]; exact List.mem_cons_self ..))
      rw [out hi, List.set_set]
section
variable {X : Cx} {T : Tb} {W : WX} {pos : Pos} {a b c e tg iter : Expr} {es : List Expr} {f : DE} {da : DA}
theorem g_name {i : Nat} {x : Str} (hN : X.N.Nodup) (hi : X.N[i]? = some x) (hx : Loc X.env.scope x) (hf : X.fn x = true ∨ X.env.scope.names.lookup x = some .local := by first | exact .inl rfl | exact .inr rfl | assumption) :
    PG X (.Name x pos) (tG X.K T [i] (tgN i)) := pg_imp (pg_name hN hi hx hf) fun x σ H Q ⟨κ, st, env, d, e', c, r, he, h⟩ => by
  cases he
  exact h _ ⟨c.rel, c.env.set i (v := .d d) r⟩ fun vs hv => wipe_set (hv i (by simp))
/-- several names -/
def tGs (K : PySem.W.Frag) (T : Tb) (is : List Nat) : TGs := fun xs σ H Q => ∃ κ st env l, Cf K T σ κ H st env ∧ RepL K T κ H l xs ∧ l.length = is.length ∧ ∀ σ', Cf K T σ' κ H st (setAll env (is.zip (l.map .d))) → (∀ vs : List Nat, (∀ i ∈ is, i ∈ vs) → wipe σ' vs = wipe σ vs) → Q σ' H
theorem pgs_imp {t t' : TGs} (h : PGs X es t) (i : ∀ x σ H Q, t' x σ H Q → t x σ H Q) : PGs X es t' := ⟨fun pins s σ H v u Q I r q => h.run pins s σ H v u Q I r (i v σ H Q q)⟩
theorem g_nil : PGs X [] (tGs X.K T []) := pgs_imp pgs_nil fun xs σ H Q ⟨κ, st, env, l, c, r, hl, h⟩ => by
  cases l with
  | nil => exact ⟨r, h σ c fun _ _ => rfl⟩
  | cons _ _ => cases hl
theorem g_cons {i : Nat} {is : List Nat} {x : Str} (hN : X.N.Nodup) (hi : X.N[i]? = some x) (hx : Loc X.env.scope x) (h2 : PGs X es (tGs X.K T is)) (hf : X.fn x = true ∨ X.env.scope.names.lookup x = some .local := by first | exact .inl rfl | exact .inr rfl | assumption)
    (hs : (assignEach (.Name x pos :: es) X.env).map (·.2) = assign (.Name x pos) X.env :: (assignEach es X.env).map (·.2) := by rfl) : PGs X (.Name x pos :: es) (tGs X.K T (i :: is)) :=
  pgs_imp (pgs_cons (pg_name hN hi hx hf) h2 hs) fun xs σ H Q ⟨κ, st, env, l, c, r, hl, h⟩ => by
    cases l with
    | nil => cases hl
    | cons d l =>
      obtain ⟨y, t, ey, ry, rt⟩ := r
      refine ⟨y, t, ey, κ, st, env.set i (some (.d d)), l, ⟨c.rel, c.env.set i (v := .d d) ry⟩, rt, Nat.succ.inj hl, fun σ' c' hw => h σ' c' fun vs hv => ?_⟩
      rw [hw vs fun j hj => hv j (List.mem_cons_of_mem _ hj)]
      exact wipe_set (hv i (List.mem_cons_self ..))
theorem g_tup {k : Nat} {is : List Nat} (hc : X.calm = true) (h : PGs X es (tGs X.K T is)) (hl : es.length = is.length) (hn : (assignEach es X.env).length = is.length := by rfl) (hst : (assignEach es X.env).findIdx? (·.1) = none := by rfl) : PG X (.Tuple es k pos) (tG X.K T is (tgT is)) :=
  pg_imp (pg_tup hc h hn hst) fun x σ H Q ⟨κ, st, env, d, e', c, r, he, h⟩ => by
    cases d <;> first | (cases (show (none : Option DEnv) = some e' from he); done) | skip
    rename_i l
    have he : (if l.length = is.length then some (setAll env (is.zip (l.map .d))) else none) = some e' := he
    by_cases q : l.length = is.length
    · rw [if_pos q] at he
      cases he
      obtain ⟨p, xs, ex, hp, rl⟩ := r
      exact ⟨p, xs, ex, hp.sq, by rw [← RepL.length rl]; exact q, κ, st, env, l, c, rl, q, h⟩
    · rw [if_neg q] at he; cases he
/-! ### what is walked -/
theorem tE_tI {k : Val → M Src} {σ : L2.St} {H : Hp} {R : It → Hp → Prop} (h : tI X.K T W (fun e => bnd (f e) k) σ H R) :
    ∃ κ st env, Cf X.K T σ κ H st env ∧ ((∃ v st1, f env st = .ok v st1 ∧ ∀ κ1 H1, Step κ H κ1 H1 → Rel X.K T κ1 H1 st1 → After X.K T W σ κ1 H1 (k v st1) fun s _ κ' H' => ∀ J, Wk X.K T J κ' H' s → R J H') ∨
      ∃ x st1, f env st = .exc x st1 ∧ ∀ Q, tE X.K T W f σ H Q) := by
  obtain ⟨κ, st, env, c, a⟩ := h
  refine ⟨κ, st, env, c, ?_⟩
  have b := a.bind
  cases q : f env st with
  | stuck => rw [q] at b; exact b.elim
  | ok v st1 => rw [q] at b; exact .inl ⟨v, st1, rfl, b⟩
  | exc x st1 => rw [q] at b; exact .inr ⟨x, st1, rfl, fun Q => ⟨κ, st, env, c, by rw [q]; exact b⟩⟩
/-- the value is there -/
theorem tE_ok {σ : L2.St} {κ : Kap} {H : Hp} {st st1 : Sto} {env : DEnv} {v : Val} {Q : VK} (c : Cf X.K T σ κ H st env) (e : f env st = .ok v st1) (h : ∀ κ1 H1, Step κ H κ1 H1 → Rel X.K T κ1 H1 st1 → ∀ u, RepVal X.K T κ1 H1 v u → Q u H1) : tE X.K T W f σ H Q :=
  ⟨κ, st, env, c, by rw [e]; exact h⟩
theorem i_seq (hc : X.calm = true) (ha : PE X a (tE X.K T W f)) : PI X tg a (tI X.K T W (iSeq f)) := ⟨fun pins s σ H R I h => by
  obtain ⟨κ, st, env, c, ⟨v, st1, q, h⟩ | ⟨x, st1, q, h⟩⟩ := tE_tI h
  · cases v with
    | cell k =>
      refine (pi_list (tg := tg) ha).run pins s σ H R I (tE_ok c q fun κ1 H1 s1 r1 u ru => ?_)
      have b := h κ1 H1 s1 r1
      have b : After X.K T W σ κ1 H1 (match st1[k]? with | some (some (.lst _)) => .ok (.cel k) st1 | _ => .stuck) (fun s _ κ' H' => ∀ J, Wk X.K T J κ' H' s → R J H') := b
      cases z : st1[k]? with
      | none => rw [z] at b; exact b.elim
      | some o =>
        cases o with
        | none => rw [z] at b; exact b.elim
        | some cl =>
          cases cl <;> first | (rw [z] at b; exact b.elim) | skip
          rw [z] at b
          obtain ⟨p, ex, hk, xs, hp, rl⟩ := r1.addr z ru
          refine ⟨p, ex, ⟨xs, .inl (.inl hp)⟩, b κ1 H1 (Step.refl _ _) r1 _ ?_⟩
          intro κ' H' st' s' r' i o hcu
          have hcu : (match st'[k]? with | some (some (.lst l)) => some l[i]? | _ => none) = some o := hcu
          cases z2 : st'[k]? with
          | none => rw [z2] at hcu; cases hcu
          | some o2 =>
            cases o2 with
            | none => rw [z2] at hcu; cases hcu
            | some c2 =>
              cases c2 <;> first | (rw [z2] at hcu; cases hcu; done) | skip
              rename_i l2
              rw [z2] at hcu
              obtain ⟨p2, hk2⟩ := r'.live k _ z2
              have := s'.old k p2 (List.getElem?_eq_some_iff.mp hk).1 hk2
              rw [hk] at this
              cases this
              obtain ⟨c3, hc3, ok⟩ := r'.cel k p hk2
              rw [z2] at hc3
              cases hc3
              obtain ⟨ys, hy, ry⟩ := ok
              have hcu : some l2[i]? = some o := hcu
              cases o with
              | none => exact ⟨ys, .inl (.inl hy), (ry.get' i).2 (Option.some.inj hcu)⟩
              | some d =>
                obtain ⟨x, ex, rx⟩ := (ry.get' i).1 d (Option.some.inj hcu)
                refine ⟨⟨ys, x, .inl (.inl hy), ex⟩, fun y H2 ⟨e2, hy2⟩ => ?_⟩
                subst e2
                have := hy2 ys (.inl (.inl hy))
                rw [ex] at this
                cases this
                exact ⟨Step.refl _ _, r', rx⟩
    | d x =>
      have bad : (∀ st2, srcOf (.d x) st2 = .stuck) → PySem.wpAny (model X.prog X.w) X.A (eval a X.env) (fun v s1 => wpAny (model X.prog X.w) X.A (pyIter v) (PIE X pins σ tg R) X.xe s1) X.xe s := fun hb =>
        (pi_list (tg := tg) ha).run pins s σ H R I (tE_ok c q fun κ1 H1 s1 r1 u ru => by
          have := h κ1 H1 s1 r1
          rw [hb] at this
          exact this.elim)
      cases x with
      | non => exact bad fun _ => rfl
      | bl _ => exact bad fun _ => rfl
      | int _ => exact bad fun _ => rfl
      | ins _ _ => exact bad fun _ => rfl
      | lst l =>
        refine (pi_list (tg := tg) ha).run pins s σ H R I (tE_ok c q fun κ1 H1 s1 r1 u ru => ?_)
        obtain ⟨p, xs, ex, hp, rl⟩ := ru
        refine ⟨p, ex, ⟨xs, hp.sq⟩, After.retd r1 (h κ1 H1 s1 r1) _ ?_⟩
        exact wk_seq (P := fun H xs => SqL X.K H p xs) (fun κ' H' s' => ⟨xs, (hp.step s').sq, RepL.step s' _ _ rl⟩) (fun H xs i x p e => ⟨xs, x, p, e⟩) (fun H xs i p e => ⟨xs, p, e⟩) fun H xs i x H2 p ⟨e, y⟩ => ⟨e, y xs p⟩
      | arr l =>
        refine (pi_list (tg := tg) ha).run pins s σ H R I (tE_ok c q fun κ1 H1 s1 r1 u ru => ?_)
        obtain ⟨p, ex, hp⟩ := ru
        refine ⟨p, ex, ⟨_, hp.sq⟩, After.retd r1 (h κ1 H1 s1 r1) _ ?_⟩
        exact wk_seq (P := fun H xs => SqL X.K H p xs) (fun κ' H' s' => ⟨_, (hp.step s').sq, RepL.ints l⟩) (fun H xs i x p e => ⟨xs, x, p, e⟩) (fun H xs i p e => ⟨xs, p, e⟩) fun H xs i x H2 p ⟨e, y⟩ => ⟨e, y xs p⟩
      | tup l =>
        refine (pi_tup (tg := tg) ha).run pins s σ H R I (tE_ok c q fun κ1 H1 s1 r1 u ru => ?_)
        obtain ⟨p, xs, ex, hp, rl⟩ := ru
        refine ⟨p, ex, ⟨xs, hp.sq⟩, After.retd r1 (h κ1 H1 s1 r1) _ ?_⟩
        exact wk_seq (P := fun H xs => SqT X.K H p xs) (fun κ' H' s' => ⟨xs, (hp.step s').sq, RepL.step s' _ _ rl⟩) (fun H xs i x p e => ⟨xs, x, p, e⟩) (fun H xs i p e => ⟨xs, p, e⟩) fun H xs i x H2 p ⟨e, y⟩ => ⟨e, y xs p⟩
      | str z =>
        refine (pi_str (tg := tg) ha).run pins s σ H R I (tE_ok c q fun κ1 H1 s1 r1 u ru => ?_)
        refine ⟨z, ru, After.retd r1 (h κ1 H1 s1 r1) _ ?_⟩
        intro κ' H' st' s' r' i o hcu
        have hcu : (chars z)[i]? = o := Option.some.inj hcu
        unfold chars at hcu
        rw [List.getElem?_map, Array.getElem?_toList] at hcu
        cases e : z.cps[i]? with
        | none =>
          rw [e] at hcu
          subst hcu
          exact Array.getElem?_eq_none_iff.mp e
        | some cp =>
          rw [e] at hcu
          subst hcu
          refine ⟨(Array.getElem?_eq_some_iff.mp e).1, fun y H2 ⟨e2, c2, h2, h3⟩ => ?_⟩
          subst e2
          rw [e] at h2
          cases h2
          exact ⟨Step.refl _ _, r', h3⟩
      | dic t l =>
        refine (pi_keys (tg := tg) ha).run pins s σ H R I (tE_ok c q fun κ1 H1 s1 r1 u ru => ?_)
        cases t with
        | false =>
          obtain ⟨p, o, kvs, ex, hn, hp, rl⟩ := ru
          refine ⟨p, o, ex, .inl ⟨kvs, hp, After.retd r1 (h κ1 H1 s1 r1) _ ?_⟩⟩
          intro κ' H' st' s' r' i o2 hcu
          have hp' := s'.fr _ _ hp hn
          have hcu : (l.map (·.1))[i]? = o2 := Option.some.inj hcu
          rw [List.getElem?_map] at hcu
          cases e : l[i]? with
          | none =>
            rw [e] at hcu
            subst hcu
            exact ⟨hp', by rw [← rl.length]; exact List.getElem?_eq_none_iff.mp e⟩
          | some kv =>
            rw [e] at hcu
            subst hcu
            obtain ⟨kk, x, e1, e2, e3⟩ := RepPK.get rl e
            refine ⟨⟨hp', (List.getElem?_eq_some_iff.mp e1).1⟩, fun y H2 ⟨e4, k', v', h2, h3⟩ => ?_⟩
            subst e4
            rw [e1] at h2
            cases h2
            exact ⟨Step.refl _ _, r', by rw [h3]; exact key_back e2⟩
        | true =>
          obtain ⟨p, o, kvs, ex, hn, hp, rl⟩ := ru
          refine ⟨p, o, ex, .inr ⟨kvs, hp, After.retd r1 (h κ1 H1 s1 r1) _ ?_⟩⟩
          intro κ' H' st' s' r' i o2 hcu
          have hp' := s'.fr _ _ hp hn
          have hcu : (l.map (·.1))[i]? = o2 := Option.some.inj hcu
          rw [List.getElem?_map] at hcu
          cases e : l[i]? with
          | none =>
            rw [e] at hcu
            subst hcu
            exact ⟨hp', by rw [← rl.length]; exact List.getElem?_eq_none_iff.mp e⟩
          | some kv =>
            rw [e] at hcu
            subst hcu
            obtain ⟨kk, x, e1, e2, e3⟩ := RepPT.get rl e
            refine ⟨⟨hp', (List.getElem?_eq_some_iff.mp e1).1⟩, fun y H2 ⟨e4, k', v', q', h2, h3, h4⟩ => ?_⟩
            subst e4
            rw [e1] at h2
            cases h2
            exact ⟨Step.refl _ _, r', by rw [h3]; exact keyT_back r' e2 h4⟩
  · exact (pi_list (tg := tg) ha).run pins s σ H R I (h _)⟩
theorem i_items {elts : List Expr} {kk : Nat} {tpos apos cpos : Pos} (ha : PE X a (tE X.K T W f)) (hbase : attributeBase a "items" X.env (eval a X.env) = eval a X.env := by rfl) (hline : (apos.endLine == cpos.line) = true := by rfl) :
    PI X (.Tuple elts kk tpos) (.Call (.Attribute a "items" apos) [] [] cpos) (tI X.K T W (iItems f)) := ⟨fun pins s σ H R I h => by
  obtain ⟨κ, st, env, c, ⟨v, st1, q, h⟩ | ⟨x, st1, q, h⟩⟩ := tE_tI h
  · by_cases hd : ∃ t l, v = .d (.dic t l)
    · obtain ⟨t, l, rfl⟩ := hd
      cases t with
      | false =>
        refine (pi_items ha hbase hline).run pins s σ H R I (tE_ok c q fun κ1 H1 s1 r1 u ru => ?_)
        obtain ⟨p, o, kvs, ex, hn, hp, rl⟩ := ru
        refine ⟨p, o, kvs, ex, hp, After.retd r1 (h κ1 H1 s1 r1) _ ?_⟩
        intro κ' H' st' s' r' i o2 hcu
        have hp' := s'.fr _ _ hp hn
        have rl' := RepPK.step s' _ _ rl
        have hcu : (pairs l)[i]? = o2 := Option.some.inj hcu
        unfold pairs at hcu
        rw [List.getElem?_map] at hcu
        cases e : l[i]? with
        | none =>
          rw [e] at hcu
          subst hcu
          exact ⟨hp', by rw [← rl.length]; exact List.getElem?_eq_none_iff.mp e⟩
        | some kv =>
          rw [e] at hcu
          subst hcu
          obtain ⟨kk, x, e1, e2, e3⟩ := RepPK.get rl' e
          refine ⟨⟨hp', (List.getElem?_eq_some_iff.mp e1).1⟩, fun y H2 ⟨T', k', v', h2, h3, h4, h5⟩ => ?_⟩
          subst h5 h3
          rw [e1] at h2
          cases h2
          exact ⟨Step.alloc h4, r'.alloc h4, rep_tup_new r' h4 ⟨_, _, rfl, key_back e2, _, _, rfl, e3, rfl⟩⟩
      | true =>
        refine (pi_itemsT ha hbase hline).run pins s σ H R I (tE_ok c q fun κ1 H1 s1 r1 u ru => ?_)
        obtain ⟨p, o, kvs, ex, hn, hp, rl⟩ := ru
        refine ⟨p, o, kvs, ex, hp, After.retd r1 (h κ1 H1 s1 r1) _ ?_⟩
        intro κ' H' st' s' r' i o2 hcu
        have hp' := s'.fr _ _ hp hn
        have rl' := RepPT.step s' _ _ rl
        have hcu : (pairs l)[i]? = o2 := Option.some.inj hcu
        unfold pairs at hcu
        rw [List.getElem?_map] at hcu
        cases e : l[i]? with
        | none =>
          rw [e] at hcu
          subst hcu
          exact ⟨hp', by rw [← rl.length]; exact List.getElem?_eq_none_iff.mp e⟩
        | some kv =>
          rw [e] at hcu
          subst hcu
          obtain ⟨kk, x, e1, e2, e3⟩ := RepPT.get rl' e
          refine ⟨⟨hp', (List.getElem?_eq_some_iff.mp e1).1⟩, fun y H2 ⟨T', q', k', v', h2, h3, h4, h5, h6⟩ => ?_⟩
          subst h6 h3
          rw [e1] at h2
          cases h2
          exact ⟨Step.alloc h5, r'.alloc h5, rep_tup_new r' h5 ⟨_, _, rfl, keyT_back r' e2 h4, _, _, rfl, e3, rfl⟩⟩
    · refine (pi_items ha hbase hline).run pins s σ H R I (tE_ok c q fun κ1 H1 s1 r1 u ru => ?_)
      have b := h κ1 H1 s1 r1
      cases v with
      | cell k => exact b.elim
      | d x => cases x <;> first | exact b.elim | exact absurd ⟨_, _, rfl⟩ hd
  · exact (pi_items ha hbase hline).run pins s σ H R I (h _)⟩
theorem wk_range {lo : Int} {n : Nat} {κ : Kap} {H : Hp} : Wk X.K T (Itr lo n) κ H (.its (upto lo n)) := by
  intro κ' H' st' s' r' i o hcu
  have hcu : (upto lo n)[i]? = o := Option.some.inj hcu
  unfold upto at hcu
  rw [List.getElem?_map] at hcu
  by_cases hi : i < n
  · rw [List.getElem?_range hi] at hcu
    subst hcu
    exact ⟨hi, fun y H2 ⟨e, h⟩ => by subst e; exact ⟨Step.refl _ _, r', h⟩⟩
  · rw [List.getElem?_eq_none (by simpa using hi)] at hcu
    subst hcu
    exact Nat.le_of_not_lt hi
theorem tA_tI {k : List Val → M Src} {σ : L2.St} {H : Hp} {R : It → Hp → Prop} (h : tI X.K T W (fun e => bnd (da e) k) σ H R) : tA X.K T W da σ H fun us H1 => ∃ κ st vs, Rel X.K T κ H1 st ∧ RepVals X.K T κ H1 vs us ∧ After X.K T W σ κ H1 (k vs st) fun s _ κ' H' => ∀ J, Wk X.K T J κ' H' s → R J H' := by
  obtain ⟨κ, st, env, c, a⟩ := h
  exact ⟨κ, st, env, c, a.bind.imp fun vs st1 κ1 H1 s1 r1 b us ru => ⟨κ1, st1, vs, r1, ru, b⟩⟩
theorem tA_mono {σ : L2.St} {H : Hp} {Q Q' : List V → Hp → Prop} (h : tA X.K T W da σ H Q) (i : ∀ v H', Q v H' → Q' v H') : tA X.K T W da σ H Q' := by
  obtain ⟨κ, st, env, c, a⟩ := h
  exact ⟨κ, st, env, c, a.imp fun v _ κ' H' _ _ q u r => i u H' (q u r)⟩
theorem rng1_ok {σ : L2.St} {κ : Kap} {H : Hp} {st : Sto} {vs : List Val} {us : List V} {R : It → Hp → Prop} (r : Rel X.K T κ H st) (ru : RepVals X.K T κ H vs us) (h : After X.K T W σ κ H (rng1 vs st) fun s _ κ' H' => ∀ J, Wk X.K T J κ' H' s → R J H') :
    ∃ j : Int, us = [.int j] ∧ -(2 ^ 62) ≤ j ∧ j < 2 ^ 62 ∧ R (Itr 0 j.toNat) H := by
  unfold rng1 at h
  split at h
  · rename_i j
    obtain ⟨x, t, e1, e2, e3⟩ := ru
    cases (show _ = [] from e3)
    obtain ⟨hj, b⟩ := stuck_ifB h
    exact ⟨j, by rw [e1, e2], hj.1, hj.2, After.retd r b _ wk_range⟩
  · exact h.elim
theorem rng2_ok {σ : L2.St} {κ : Kap} {H : Hp} {st : Sto} {vs : List Val} {us : List V} {R : It → Hp → Prop} (r : Rel X.K T κ H st) (ru : RepVals X.K T κ H vs us) (h : After X.K T W σ κ H (rng2 vs st) fun s _ κ' H' => ∀ J, Wk X.K T J κ' H' s → R J H') :
    ∃ i j : Int, us = [.int i, .int j] ∧ (-(2 ^ 62) ≤ i ∧ i < 2 ^ 62 ∧ -(2 ^ 62) ≤ j ∧ j < 2 ^ 62) ∧ R (Itr i (j - i).toNat) H := by
  unfold rng2 at h
  split at h
  · rename_i i j
    obtain ⟨x, t, e1, e2, y, t2, e3, e4, e5⟩ := ru
    cases (show _ = [] from e5)
    obtain ⟨hj, b⟩ := stuck_ifB h
    exact ⟨i, j, by rw [e1, e2, e3, e4], hj, After.retd r b _ wk_range⟩
  · exact h.elim
theorem i_range1 (hg : Gl X "range") (hm : X.mg "range" = none) {p : Pos} (ha : PA X [a] (tA X.K T W da)) (hs : starEach [a] X.env = [(false, eval a X.env)] := by rfl) : PI X tg (.Call (.Name "range" p) [a] [] pos) (tI X.K T W (iRange1 da)) :=
  pi_imp (pi_range1 hg hm ha hs) fun σ H R h => tA_mono (tA_tI h) fun us H1 ⟨κ, st, vs, r, ru, b⟩ => rng1_ok r ru b
theorem i_range2 {b' : Expr} (hg : Gl X "range") (hm : X.mg "range" = none) {p : Pos} (ha : PA X [a, b'] (tA X.K T W da)) (hs : starEach [a, b'] X.env = [(false, eval a X.env), (false, eval b' X.env)] := by rfl) (hs2 : starEach [b'] X.env = [(false, eval b' X.env)] := by rfl) : PI X tg (.Call (.Name "range" p) [a, b'] [] pos) (tI X.K T W (iRange2 da)) :=
  pi_imp (pi_range2 hg hm ha hs hs2) fun σ H R h => tA_mono (tA_tI h) fun us H1 ⟨κ, st, vs, r, ru, b⟩ => rng2_ok r ru b
/-! ### for -/
theorem s_for {is : List Nat} {g : DG} {src : DI} {p : DS} {ss : List Stmt} (hp : PassesOwn (model X.prog X.w) X.A X.env X.xe) (hc : X.calm = true) (hi : PI X tg iter (tI X.K T W src)) (hg : PG X tg (tG X.K T is g)) (hb : PSs X ss (tS X.K T W p))
    (hs : ∀ x, foldedSetIterable iter X.env x = pure x := by intro _; rfl) : PS X (.For tg iter ss [] pos) (tS X.K T W (forS src g p)) := ps_imp (ps_for hp hc hi hg hb hs) fun D σ H ⟨κ, st, env, c, a⟩ => by
  refine ⟨κ, st, env, c, (AftS.bndd c a).imp fun s st1 κ1 H1 t1 e1 a1 J wk => ?_⟩
  refine ⟨fun i m σ' H' => ∃ κ' st' env', Step κ1 H1 κ' H' ∧ Cf X.K T σ' κ' H' st' env' ∧ AftS X.K T W κ' H' (forD g p m s i env' st') D, ⟨fuelOf s, κ1, st1, env, Step.refl _ _, c.step t1 e1, a1⟩, ?_⟩
  rintro i m σ' H' ⟨κ', st', env', t', c', a'⟩
  cases m with
  | zero => exact a'.elim
  | succ m =>
    have a' : AftS X.K T W κ' H' (match cur s i st' with | none => .stuck | some none => .nx env' st' | some (some d) => match g d env' with | none => .stuck | some e1 => match p e1 st' with
        | .nx e' s' => forD g p m s (i + 1) e' s' | .ct e' s' => forD g p m s (i + 1) e' s' | .bk e' s' => .nx e' s' | r => r) D := a'
    cases q : cur s i st' with
    | none => rw [q] at a'; exact a'.elim
    | some o =>
      rw [q] at a'
      have w := wk κ' H' st' t' c'.rel i o q
      cases o with
      | none => exact .inl ⟨w, AftS.nxd c' a'⟩
      | some d =>
        have a' : AftS X.K T W κ' H' (match g d env' with | none => .stuck | some e1 => match p e1 st' with
          | .nx e' s' => forD g p m s (i + 1) e' s' | .ct e' s' => forD g p m s (i + 1) e' s' | .bk e' s' => .nx e' s' | r => r) D := a'
        cases q2 : g d env' with
        | none => rw [q2] at a'; exact a'.elim
        | some e2 =>
          rw [q2] at a'
          refine .inr ⟨w.1, fun σ3 H3 => ∃ κ3 st3 env3, Step κ1 H1 κ3 H3 ∧ Cf X.K T σ3 κ3 H3 st3 env3 ∧ AftS X.K T W κ3 H3 (forD g p m s (i + 1) env3 st3) D, fun σ3 H3 h3 => ⟨m, Nat.lt_succ_self m, h3⟩, fun x H2 hy => ?_⟩
          obtain ⟨sy, ry, rx⟩ := w.2 x H2 hy
          refine ⟨κ', st', env', d, e2, c'.step sy ry, rx, q2, fun σ2 c2 _ => ⟨κ', st', e2, c2, ?_⟩⟩
          have a2 := AftS.since sy a'
          have t2 := t'.trans sy
          have a2 : AftS X.K T W κ' H2 (match p e2 st' with
            | .nx e' s' => forD g p m s (i + 1) e' s' | .ct e' s' => forD g p m s (i + 1) e' s' | .bk e' s' => .nx e' s' | r => r) D := a2
          cases z : p e2 st' with
          | nx e' s' => rw [z] at a2; exact fun σ4 κ4 H4 t4 c4 => ⟨κ4, s', e', t2.trans t4, c4, AftS.since t4 a2⟩
          | ct e' s' => rw [z] at a2; exact fun σ4 κ4 H4 t4 c4 => ⟨κ4, s', e', t2.trans t4, c4, AftS.since t4 a2⟩
          | bk e' s' => rw [z] at a2; exact a2
          | rt v s' => rw [z] at a2; exact a2
          | exc x e' s' => rw [z] at a2; exact a2
          | stuck => rw [z] at a2; exact a2
end
end Fb
/-! FbD -/
/-! FbD: dict comprehensions whose keys are ints and texts, or tuples of these. -/
namespace Fb
open PySem PySem.Spec PyProof.Rows L2
/-- an empty dict by the kind of its keys-to-be -/
def nul (kt : Bool) : HO := if kt then .dT [] else .dK []
theorem nul_ok {P : Program} {w : World} {H : Hp} {h : Heap} (kt : Bool) (hb : sysModules < h.objs.size) : ObjOk P w H (h.push { cls := .type "dict", data := .dict #[] }) h.objs.size (nul kt) := by
  cases kt with
  | false => exact dk_empty h hb
  | true => exact dt_empty h hb
/-- a comprehension's d[y] = v -/
theorem dictSet_put {X : Cx} {pins : List (Addr × Obj)} {σ : L2.St} {H H' : Hp} {s : Shared} {E : Value → Shared → Prop} {a : Addr} {y v : V} {u r : Value} {Q : Unit → Shared → Prop} (hu : X.A.units + 1 < cLine) (I : Inv X pins σ H s) (g : DPut H a y v H') (ry : RelV y u) (rv : RelV v r)
    (h : ∀ s', Inv X pins σ H' s' → Q () s') : wpAny (model X.prog X.w) X.A (dictSet a u r) Q E s := by
  rcases g with ⟨kvs, k, e, rfl, l, rfl⟩ | ⟨kvs, k, b, e, rfl, eb, l, rfl⟩
  · exact d_dictSet I e l ry rv h
  · obtain rfl : u = Value.ref b := ry
    obtain ⟨z, hd, xs, rel, dd⟩ := dt_of I.hok e
    have hz : xs.length ≤ sizeLine := by rw [← Paired.length rel]; exact z
    have hl : (putK kvs k v).length ≤ sizeLine := Nat.le_trans (length_putK kvs k v) l
    refine wpAny_dictSet_heap (hsz := hz) (show X.A.units < cLine from Nat.lt_of_succ_lt hu) (key_of I.hok eb) dd fun h1 dd1 hs => h _ ?_
    obtain ⟨q, es, ep, hq, h2, h3, h4, _, h5⟩ := dd1
    have keep := (rel.put k eb rv).keeps (H' := upd H a (.dT (putK kvs k v))) fun c ys ec => by
      rw [upd_ne (ne_of ec e (fun z => nomatch z))]
      exact ec
    exact d_write I (by rw [e]; trivial) hs ⟨q, hq⟩ ⟨hl, hd, _, keep, q, es, ep, hq, h2, h3, h4, h5⟩
section
variable {X : Cx}
/-- {k: v for target in iter if ..}: D the new dict -/
def tDcP (kt : Bool) (wi : TI) (g : TG) (tt : TT) (tk tv : TE) (vs : List Nat) : TE := fun σ H Q => wi σ H fun J H1 => ∀ D, H1 D = none →
  ∃ M : Nat → Nat → Hp → Prop, (∃ m, M 0 m (upd H1 D (nul kt))) ∧ ∀ i m H, M i m H → (J.stop i H ∧ Q (.ref D) H) ∨ (J.go i H ∧
    ∃ Nx : Hp → Prop, (∀ H', Nx H' → ∃ m', m' < m ∧ M (i + 1) m' H') ∧ ∀ x H', J.yld i H x H' → g x (wipe σ vs) H' fun σ2 H2 => wipe σ2 vs = wipe σ vs ∧ tt σ2 H2 fun b H3 =>
      if b = true then tk σ2 H3 fun y H4 => tv σ2 H4 fun z H5 => ∃ H6, DPut H5 D y z H6 ∧ Nx H6 else Nx H3)
theorem pe_dcP {kt : Bool} {kx vx tg iter : Expr} {ifs : List Expr} {scope : Scope} {own : List (Str × Nat)} {pos : Pos} {wi : TI} {g : TG} {tt : TT} {tk tv : TE} (hu : X.A.units + 1 < cLine) (hc : X.calm = true) (hN : X.N.Nodup) (hi : PI X tg iter wi) (ok : BlkOk X.N X.env.scope scope own)
    (hg : ∀ (s : Shared) (H : Hp) (C : Addr) (cl : List (Str × Addr)) (fp : List Addr), PG (X.blk s H scope (compEnvC scope cl C X.env) fp) tg g)
    (ht : ∀ (s : Shared) (H : Hp) (C : Addr) (cl : List (Str × Addr)) (fp : List Addr), PTs (X.blk s H scope (compEnvC scope cl C X.env) fp) ifs tt)
    (hk : ∀ (s : Shared) (H : Hp) (C : Addr) (cl : List (Str × Addr)) (fp : List Addr), PE (X.blk s H scope (compEnvC scope cl C X.env) fp) kx tk)
    (he : ∀ (s : Shared) (H : Hp) (C : Addr) (cl : List (Str × Addr)) (fp : List Addr), PE (X.blk s H scope (compEnvC scope cl C X.env) fp) vx tv) (hs : ∀ x, foldedSetIterable iter X.env x = pure x := by intro _; rfl) :
    PE X (.DictComp kx vx [⟨tg, iter, ifs, 0⟩] scope pos) (tDcP kt wi g tt tk tv (own.map (·.2))) := by
  constructor
  intro pins s σ H Q I h
  rw [arm_eval_DictComp]
  have clo : ∀ y ∈ scope.names, y.2 = .free → ∃ c, X.env.cells.lookup y.1 = some c := fun y hy e => I.ok.has _ (ok.free y hy e)
  refine wpAny_comprehension_free rfl hs (closure_ok clo) ok.kind (fun y hy e => by rw [ok.uniq y hy, e]) (thn (hi.run pins s σ H _ I h) fun xv s1 hx => thn hx ?_)
  rintro itv s2 ⟨it, fp, tn, J, H2, rfl, I2, T, st2, f2, q⟩
  refine wpAny_newObj_type (newEnv_comp ?_)
  generalize hD : s2.heap.objs.size = D
  have hDn : H2 D = none := I2.hok.fresh (Nat.le_of_eq hD)
  obtain ⟨M, ⟨m0, w0⟩, turn⟩ := q D hDn
  generalize hs3 : ({ s2 with heap := s2.heap.push { cls := .type "dict", data := .dict #[] } } : Shared) = s3
  have I3 : Inv X pins σ (upd H2 D (nul kt)) s3 := by
    rw [← hs3, ← hD]
    exact I2.laid (t' := s2.toks) (fun b o e => Heap.get?_push_of_some _ e) (Nat.le_refl _) (nul_ok kt I2.big)
  have h3 : s3.heap = s2.heap.push { cls := .type "dict", data := .dict #[] } := by rw [← hs3]
  have f3 : ∀ b ∈ fp, FpOk X pins (upd H2 D (nul kt)) b ∧ b < s3.heap.objs.size := by
    intro b hb
    obtain ⟨o, e, _⟩ := T.obj _ _ st2 b hb
    have hlt := Heap.lt_size e
    constructor
    · refine ⟨?_, (f2 b hb).2⟩
      rw [upd_ne (by rw [← hD]; exact Nat.ne_of_lt hlt)]
      exact (f2 b hb).1
    · rw [h3, Heap.size_push]
      exact Nat.lt_succ_of_lt hlt
  have st3 : tn 0 s3.heap := T.keep _ _ _ st2 fun b _ o e => by
    rw [h3]
    exact Heap.get?_push_of_some _ e
  have I4 := block_start I3 ok hN f3
  show codeAny _ _ (.compStart (.DictComp kx vx [⟨tg, iter, ifs, 0⟩] scope pos) 0 (.ref it) (.ref D) (compEnvC scope (cellsFrom (s3.heap.objs.size + 1) scope.names (cloFrom X.env.cells scope.names [])) s3.heap.objs.size X.env)) (compPost (model X.prog X.w) X.A X.xe none (EP X pins σ Q) (.ref D) s3.heap.objs.size) { s3 with heap := pushCells (s3.heap.push { cls := .type "dict", data := .dict #[] }) scope.names }
  -- the block
  generalize hcl : cellsFrom (s3.heap.objs.size + 1) scope.names (cloFrom X.env.cells scope.names []) = cl at I4 ⊢
  have pg := hg s3 (upd H2 D (nul kt)) s3.heap.objs.size cl fp
  have pt := ht s3 (upd H2 D (nul kt)) s3.heap.objs.size cl fp
  have pk := hk s3 (upd H2 D (nul kt)) s3.heap.objs.size cl fp
  have pe := he s3 (upd H2 D (nul kt)) s3.heap.objs.size cl fp
  generalize hfin : compPost (model X.prog X.w) X.A X.xe none (EP X pins σ Q) (.ref D) s3.heap.objs.size = post
  have hRR : ∀ s' m H', Inv X pins σ H' s' → Q (.ref D) H' → s'.heap.Ns s3.heap.objs.size m → FpOk X pins H' s3.heap.objs.size → post (.ok .next) s' := by
    intro s' m H' I' q hn ⟨f0, f1, f2, f3, f4, f5⟩
    rw [← hfin]
    exact ⟨m, hn, fun h'' sb => ⟨.ref D, H', I'.turned (t' := s'.toks) (fun b o hb e => (sb.2 b hb).trans e) f0 f1 f3 f4 f5, rfl, q⟩⟩
  generalize hce : compEnvC scope cl s3.heap.objs.size X.env = ce at I4 pg pt pk pe ⊢
  have cL : ce.locals = s3.heap.objs.size := by rw [← hce]; rfl
  have nfp : ∀ b ∈ fp, (upd H2 D (nul kt)) b = none := fun b hb => (f3 b hb).1.1
  generalize hH3 : upd H2 D (nul kt) = H3 at I3 I4 pg pt pk pe w0 nfp f3
  generalize hs4 : ({ s3 with heap := pushCells (s3.heap.push { cls := .type "dict", data := .dict #[] }) scope.names } : Shared) = s4 at I4 ⊢
  have st4 : tn 0 s4.heap := T.keep _ _ _ st3 fun b _ o e => by
    rw [← hs4]
    exact pushCells_keeps _ _ _ _ (Heap.get?_push_of_some _ e)
  generalize hB : X.blk s3 H3 scope ce fp = B at I4 pg pt pk pe
  have eP : B.prog = X.prog := by rw [← hB]
  have eW : B.w = X.w := by rw [← hB]
  have eK : B.K = X.K := by rw [← hB]
  have eC : B.calm = true := by rw [← hB]; exact hc
  subst hB
  have stat : ∀ {σ' : L2.St} {H' : Hp} {s' : Shared}, Inv (X.blk s3 H3 scope ce fp) [] σ' H' s' → (∀ b ∈ fp, H' b = none) → ∀ b ∈ fp, FpOk (X.blk s3 H3 scope ce fp) [] H' b := by
    intro σ' H' s' I' hn b hb
    refine ⟨hn b hb, (I'.ok.exf b hb).1, I'.ok.exfs b hb, .inl hb, (I'.ok.exf b hb).2, fun p hp => ?_⟩
    exact absurd (show p ∈ ([] : List (Addr × Obj)) ++ [] from hp) (by simp)
  have loop : codeAny (model X.prog X.w) X.A (.compLoop (.DictComp kx vx [⟨tg, iter, ifs, 0⟩] scope pos) 0 (.ref it) (.ref D) ce) post s4 := by
    refine compLoop_anyD (fun n s' => ∃ i H', Inv (X.blk s3 H3 scope ce fp) [] (wipe σ (own.map (·.2))) H' s' ∧ tn i s'.heap ∧ (∀ b ∈ fp, H' b = none) ∧ M i n H') ?_ m0 ⟨0, H3, I4, st4, nfp, w0⟩
    rintro n s5 ⟨i, H5, I5, st5, n5, w5⟩
    rcases turn i n H5 w5 with ⟨stop, qq⟩ | ⟨go, Nx, hNx, step⟩
    · refine thnF (T.done (X.blk s3 H3 scope ce fp) rfl rfl rfl hc i [] s5 _ H5 (fun _ _ => False) I5 (stat I5 n5) st5 stop) ?_
      rintro r s6 ⟨rfl, I6⟩
      have I7 : Inv X pins σ H5 s6 := I3.call' (ch := fp) I6.os I6.base I6.hok I6.bare fun b hb => by
        obtain ⟨_, g1, g2, g3, g4, g5⟩ := (f3 b hb).1
        exact ⟨g3, g1, g4, g5⟩
      have nC : H5 s3.heap.objs.size = none := by rw [← cL]; exact I6.free
      obtain ⟨m, hn, _⟩ := I6.loc
      have hn : s6.heap.Ns s3.heap.objs.size m := by rw [← cL]; exact hn
      exact hRR s6 m H5 I7 qq hn (I3.fpOk (Nat.le_refl _) nC)
    · refine thnF (T.item (X.blk s3 H3 scope ce fp) rfl rfl rfl hc i [] s5 _ H5 (fun _ _ => False) I5 (stat I5 n5) st5 go) ?_
      rintro r s6 ⟨u, rfl, h6⟩
      refine thnF h6 ?_
      rintro _ s7 ⟨x, H7, I7, r7, y7, st7, n7⟩
      have I7' := I7.pinned (stat I7 n7) (T.obj _ _ st7)
      refine thnF (pg.run _ s7 _ H7 x u _ I7' r7 (step x H7 y7)) ?_
      rintro _ s8 ⟨σ8, H8, I8, hw8, q8⟩
      refine thnF (pt.run _ s8 σ8 H8 _ I8 q8) ?_
      rintro b s9 ⟨H9, I9, q9⟩
      have again : ∀ {s' : Shared} {H' : Hp}, Inv (X.blk s3 H3 scope ce fp) ([] ++ pinsAt fp s7.heap) σ8 H' s' → Nx H' →
          ∃ m, m < n ∧ ∃ i H', Inv (X.blk s3 H3 scope ce fp) [] (wipe σ (own.map (·.2))) H' s' ∧ tn i s'.heap ∧ (∀ b ∈ fp, H' b = none) ∧ M i m H' := by
        intro s' H' I' nx
        obtain ⟨m', hm, w'⟩ := hNx H' nx
        have pin : ∀ b ∈ fp, ∀ o, s7.heap.get? b = some o → s'.heap.get? b = some o ∧ H' b = none := by
          intro b hb o e
          have z := I'.pin (b, o) (List.mem_append_right _ (List.mem_append_right _ (mem_pinsAt hb e)))
          exact ⟨z.1, z.2.1⟩
        have hl : (wipe σ (own.map (·.2))).length = σ8.length := by rw [← hw8, wipe_length]
        refine ⟨m', hm, i + 1, H', (I'.unpinned (pins := [])).weak hl ?_, ?_, ?_, w'⟩
        · intro j v e
          rw [← hw8] at e
          exact (wipe_some e).1
        · exact T.keep _ _ _ st7 fun b hb o e => (pin b hb o e).1
        · intro b hb
          obtain ⟨o, e, _⟩ := T.obj _ _ st7 b hb
          exact (pin b hb o e).2
      cases b with
      | false => exact again I9 (by simpa using q9)
      | true =>
        simp only [if_true] at q9 ⊢
        refine thnF (pk.run _ s9 σ8 H9 _ I9 q9) ?_
        rintro z s10 ⟨yk, H10, I10, r10, q10⟩
        refine thnF (pe.run _ s10 σ8 H10 _ I10 q10) ?_
        rintro z2 s11 ⟨yv, H11, I11, r11, H12, put, nx⟩
        exact dictSet_put (X := X.blk s3 H3 scope ce fp) hu I11 put r10 r11 fun s12 I12 => again I12 nx
  exact codeAny_compStart_dict loop (T.self X.A 0 _ _ _ st4 loop)
/-- a dict just made is locked -/
theorem pe_locked {e : Expr} {t : TE} (h : PE X e t) : PE X e (fun σ H Q => t σ H fun v H' => Q v H' ∨ ∃ a u, v = .ref a ∧ H' a = some u ∧ Mut (some u) ∧ ∀ od, Q v (upd H' a (.frz od u))) := by
  constructor
  intro pins s σ H Q I hw
  refine thn (h.run pins s σ H _ I hw) ?_
  rintro v s1 ⟨x, H1, I1, r, q | ⟨a, u, ea, hu, mu, q⟩⟩
  · exact ⟨x, H1, I1, r, q⟩
  · obtain ⟨od, I2⟩ := I1.lock hu mu
    exact ⟨x, _, I2, r, q od⟩
end
end Fb
/-! FbC -/
/-! FbC: comprehensions. -/
namespace Fb
open PySem PySem.Spec PyProof.Rows L2
section
variable {K : PySem.W.Frag} {T : Tb} {W : WX} {σ : L2.St} {κ κ' : Kap} {H H' : Hp} {st st' : Sto} {env : DEnv} {α β : Type}
/-- a thing just made becomes a cell -/
theorem Step.grow {D : Addr} {o : HO} (r : Rel K T κ H st) (hD : H D = none) : Step κ H (κ ++ [some D]) (upd H D o) where
  len := by simp
  old := fun i a hi e => by rw [List.getElem?_append_left hi] at e; exact e
  new := fun i a hi e => by
    rw [List.getElem?_append_right hi] at e
    by_cases z : i - κ.length = 0
    · rw [z] at e
      cases e
      exact hD
    · rw [List.getElem?_eq_none (by simp; omega)] at e; cases e
  fr := (Step.alloc (κ := κ) hD).fr
  dom := (Step.alloc (κ := κ) hD).dom
theorem Rel.grow {D : Addr} {o : HO} {c : Cel} (r : Rel K T κ H st) (hD : H D = none) (ok : CelOk K T (κ ++ [some D]) (upd H D o) D c) : Rel K T (κ ++ [some D]) (upd H D o) (st ++ [some c]) := by
  have hl : κ.length = st.length := r.len
  have nk : some D ∉ κ := r.out hD
  have s4 : Step κ H (κ ++ [some D]) (upd H D o) := Step.grow r hD
  have key : ∀ (i : Nat) (a : Addr), (κ ++ [some D])[i]? = some (some a) → (i < κ.length ∧ κ[i]? = some (some a)) ∨ (i = κ.length ∧ a = D) := fun i a hi => by
    by_cases z : i < κ.length
    · rw [List.getElem?_append_left z] at hi; exact .inl ⟨z, hi⟩
    · rw [List.getElem?_append_right (by omega)] at hi
      by_cases z2 : i - κ.length = 0
      · rw [z2] at hi; cases hi; exact .inr ⟨by omega, rfl⟩
      · rw [List.getElem?_eq_none (by simp; omega)] at hi; cases hi
  refine ⟨by simp [hl], fun i j a hi hj => ?_, fun i a hi => ?_, fun i cl hi => ?_⟩
  · rcases key i a hi with ⟨h1, e1⟩ | ⟨h1, e1⟩ <;> rcases key j a hj with ⟨h2, e2⟩ | ⟨h2, e2⟩
    · exact r.inj i j a e1 e2
    · rw [e2] at e1; exact absurd (List.mem_of_getElem? e1) nk
    · rw [e1] at e2; exact absurd (List.mem_of_getElem? e2) nk
    · omega
  · rcases key i a hi with ⟨h1, e1⟩ | ⟨h1, e1⟩
    · obtain ⟨cl, h2, h3⟩ := r.cel i a e1
      refine ⟨cl, by rw [List.getElem?_append_left (by omega)]; exact h2, h3.step s4 ?_⟩
      exact upd_ne fun q => nk (by rw [← q]; exact List.mem_of_getElem? e1)
    · subst e1
      refine ⟨c, ?_, ok⟩
      rw [List.getElem?_append_right (by omega), show i - st.length = 0 by omega]
      rfl
  · by_cases z : i < st.length
    · rw [List.getElem?_append_left z] at hi
      obtain ⟨a, ha⟩ := r.live i cl hi
      exact ⟨a, by rw [List.getElem?_append_left (by omega)]; exact ha⟩
    · rw [List.getElem?_append_right (by omega)] at hi
      by_cases z2 : i - st.length = 0
      · exact ⟨D, by rw [List.getElem?_append_right (by omega), show i - κ.length = 0 by omega]; rfl⟩
      · rw [List.getElem?_eq_none (by simp; omega)] at hi; cases hi
/-- the cell is at its place -/
theorem Step.own {D a : Addr} {H2 : Hp} (t : Step (κ ++ [some D]) H2 κ' H') (h : κ'[κ.length]? = some (some a)) : a = D := by
  have := t.old κ.length a (by simp) h
  rw [List.getElem?_append_right (Nat.le_refl _), Nat.sub_self] at this
  cases this
  rfl
theorem Step.self {D : Addr} {H2 : Hp} (t : Step (κ ++ [some D]) H2 κ' H') : RepVal K T κ' H' (.cell κ.length) (.ref D) := by
  have hlt : κ.length < κ'.length := by have := t.len; simp at this; omega
  refine ⟨κ'[κ.length], List.getElem?_eq_getElem hlt, fun a ea => ?_⟩
  rw [t.own (a := a) (by rw [List.getElem?_eq_getElem hlt, ea])]
theorem noXd {m : M α} {k : α → M β} {P : β → Sto → Kap → Hp → Prop} {σ2 : L2.St} {κ2 : Kap} {H2 : Hp} (h : After K T W σ κ H (bnd (noX m) k st) P) : After K T WF σ2 κ2 H2 (m st) fun a st1 _ _ => After K T W σ κ H (k a st1) P := by
  unfold bnd noX at h
  cases q : m st with
  | ok a s1 => rw [q] at h; exact fun _ _ _ _ => h
  | exc x s1 => rw [q] at h; exact h.elim
  | stuck => rw [q] at h; exact h.elim
theorem plainB {v : Val} {k : D → M β} {P : β → Sto → Kap → Hp → Prop} (h : After K T W σ κ H (bnd (plain v) k st) P) : ∃ y, v = .d y ∧ After K T W σ κ H (k y st) P := by
  cases v with
  | cell _ => exact h.elim
  | d y => exact ⟨y, rfl, h⟩
theorem EnvRep.wipe {env : DEnv} (h : EnvRep K T κ H σ env) : ∀ vs : List Nat, EnvRep K T κ H (L2.wipe σ vs) (wipeD env vs)
  | [] => h
  | v :: vs => by
    have ih := EnvRep.wipe h vs
    unfold L2.wipe wipeD
    refine ⟨by rw [List.length_set, List.length_set]; exact ih.1, fun j w e => ?_⟩
    by_cases hj : v = j
    · subst hj
      by_cases hl : v < (wipeD env vs).length
      · rw [List.getElem?_set_self hl] at e; cases e
      · rw [List.getElem?_eq_none (by rw [List.length_set]; omega)] at e; cases e
    · rw [List.getElem?_set_ne hj] at e
      obtain ⟨u, h1, h2⟩ := ih.2 j w e
      exact ⟨u, by rw [List.getElem?_set_ne hj]; exact h1, h2⟩
end
/-! ### a dict's entry -/
section
variable {K : PySem.W.Frag} {T : Tb} {κ : Kap} {H : Hp}
theorem put_any {κ' : Type} [DecidableEq κ'] {kk : κ'} {k : D} {tr : D → Option κ'} (hk : ∀ j jj, tr j = some jj → keyEq j k = decide (jj = kk)) {R : List (D × D) → List (κ' × V) → Prop}
    (hn : ∀ kvs, R [] kvs → kvs = []) (hc : ∀ p l kvs, R (p :: l) kvs → ∃ jj x t, kvs = (jj, x) :: t ∧ tr p.1 = some jj ∧ R l t) : ∀ {l : List (D × D)} {kvs : List (κ' × V)}, R l kvs → (l.any fun p => keyEq p.1 k) = (kvs.any fun kv => decide (kv.1 = kk))
  | [], kvs, r => by rw [hn kvs r]; rfl
  | p :: l, kvs, r => by
    obtain ⟨jj, x, t, e, h1, h2⟩ := hc p l kvs r
    subst e
    rw [List.any_cons, List.any_cons, hk _ _ h1, put_any hk hn hc h2]
theorem RepPK.app : ∀ {l m : List (D × D)} {xs ys : List (Key × V)}, RepPK K T κ H l xs → RepPK K T κ H m ys → RepPK K T κ H (l ++ m) (xs ++ ys)
  | [], _, _, _, h, q => by cases (show _ = [] from h); exact q
  | (k, d) :: r, _, _, _, ⟨kk, x, t, e, hk, h1, h2⟩, q => by subst e; exact ⟨kk, x, _, rfl, hk, h1, RepPK.app h2 q⟩
theorem RepPT.app : ∀ {l m : List (D × D)} {xs ys : List (List Key × V)}, RepPT K T κ H l xs → RepPT K T κ H m ys → RepPT K T κ H (l ++ m) (xs ++ ys)
  | [], _, _, _, h, q => by cases (show _ = [] from h); exact q
  | (k, d) :: r, _, _, _, ⟨kk, x, t, e, hk, h1, h2⟩, q => by subst e; exact ⟨kk, x, _, rfl, hk, h1, RepPT.app h2 q⟩
theorem RepPK.putM {k v : D} {kk : Key} {x : V} (hk : keyK k = some kk) (rv : Rep K T κ H v x) : ∀ {l : List (D × D)} {kvs : List (Key × V)}, RepPK K T κ H l kvs → RepPK K T κ H (l.map fun p => if keyEq p.1 k = true then (p.1, v) else p) (kvs.map fun kv => if kv.1 = kk then (kv.1, x) else kv)
  | [], _, h => by cases (show _ = [] from h); exact rfl
  | (j, d) :: r, _, ⟨jj, y, t, e, hj, h1, h2⟩ => by
    subst e
    have q := keyEq_K hj hk
    have ih := RepPK.putM hk rv h2
    rw [List.map_cons, List.map_cons]
    by_cases z : jj = kk
    · rw [decide_eq_true z] at q
      have e1 : (if keyEq (j, d).1 k = true then ((j, d).1, v) else (j, d)) = (j, v) := if_pos q
      have e2 : (if (jj, y).1 = kk then ((jj, y).1, x) else (jj, y)) = (jj, x) := if_pos z
      rw [e1, e2]
      exact ⟨jj, x, _, rfl, hj, rv, ih⟩
    · rw [decide_eq_false z] at q
      have e1 : (if keyEq (j, d).1 k = true then ((j, d).1, v) else (j, d)) = (j, d) := if_neg (by rw [show keyEq (j, d).1 k = false from q]; exact Bool.false_ne_true)
      have e2 : (if (jj, y).1 = kk then ((jj, y).1, x) else (jj, y)) = (jj, y) := if_neg z
      rw [e1, e2]
      exact ⟨jj, y, _, rfl, hj, h1, ih⟩
theorem RepPT.putM {k v : D} {kk : List Key} {x : V} (hk : keyT k = some kk) (rv : Rep K T κ H v x) : ∀ {l : List (D × D)} {kvs : List (List Key × V)}, RepPT K T κ H l kvs → RepPT K T κ H (l.map fun p => if keyEq p.1 k = true then (p.1, v) else p) (kvs.map fun kv => if kv.1 = kk then (kv.1, x) else kv)
  | [], _, h => by cases (show _ = [] from h); exact rfl
  | (j, d) :: r, _, ⟨jj, y, t, e, hj, h1, h2⟩ => by
    subst e
    have q := keyEq_T hj hk
    have ih := RepPT.putM hk rv h2
    rw [List.map_cons, List.map_cons]
    by_cases z : jj = kk
    · rw [decide_eq_true z] at q
      have e1 : (if keyEq (j, d).1 k = true then ((j, d).1, v) else (j, d)) = (j, v) := if_pos q
      have e2 : (if (jj, y).1 = kk then ((jj, y).1, x) else (jj, y)) = (jj, x) := if_pos z
      rw [e1, e2]
      exact ⟨jj, x, _, rfl, hj, rv, ih⟩
    · rw [decide_eq_false z] at q
      have e1 : (if keyEq (j, d).1 k = true then ((j, d).1, v) else (j, d)) = (j, d) := if_neg (by rw [show keyEq (j, d).1 k = false from q]; exact Bool.false_ne_true)
      have e2 : (if (jj, y).1 = kk then ((jj, y).1, x) else (jj, y)) = (jj, y) := if_neg z
      rw [e1, e2]
      exact ⟨jj, y, _, rfl, hj, h1, ih⟩
theorem RepPK.put {k v : D} {kk : Key} {x : V} (hk : keyK k = some kk) (rv : Rep K T κ H v x) {l : List (D × D)} {kvs : List (Key × V)} (r : RepPK K T κ H l kvs) : RepPK K T κ H (Fb.put k v l) (putK kvs kk x) := by
  have e := put_any (tr := keyK) (kk := kk) (k := k) (R := RepPK K T κ H) (fun j jj h => keyEq_K h hk) (fun _ h => h) (fun p l kvs ⟨jj, y, t, e, hj, h1, h2⟩ => ⟨jj, y, t, e, hj, h2⟩) r
  unfold Fb.put putK
  rw [e]
  split
  · exact r.putM hk rv
  · exact r.app ⟨kk, x, [], rfl, hk, rv, rfl⟩
theorem RepPT.put {k v : D} {kk : List Key} {x : V} (hk : keyT k = some kk) (rv : Rep K T κ H v x) {l : List (D × D)} {kvs : List (List Key × V)} (r : RepPT K T κ H l kvs) : RepPT K T κ H (Fb.put k v l) (putK kvs kk x) := by
  have e := put_any (tr := keyT) (kk := kk) (k := k) (R := RepPT K T κ H) (fun j jj h => keyEq_T h hk) (fun _ h => h) (fun p l kvs ⟨jj, y, t, e, hj, h1, h2⟩ => ⟨jj, y, t, e, hj, h2⟩) r
  unfold Fb.put putK
  rw [e]
  split
  · exact r.putM hk rv
  · exact r.app ⟨kk, x, [], rfl, hk, rv, rfl⟩
/-- a cell that is a dict takes an entry -/
theorem put_cell {t : Bool} {l : List (D × D)} {k v : D} {a : Addr} {y z : V} (ha : some a ∈ κ) (ok : CelOk K T κ H a (.dic t l)) (hk : isKey t k = true) (hl : l.length < 1000000) (rk : Rep K T κ H k y) (rv : Rep K T κ H v z) :
    ∃ o, DPut H a y z (upd H a o) ∧ CelOk K T κ (upd H a o) a (.dic t (Fb.put k v l)) := by
  obtain ⟨i, hi⟩ := List.mem_iff_getElem?.mp ha
  cases t with
  | false =>
    obtain ⟨kvs, h1, h2⟩ := ok
    obtain ⟨kk, ek⟩ := atom_key (show isAtom k = true from hk)
    have ey := key_rep ek rk
    subst ey
    exact ⟨_, DPut.k h1 (by rw [← h2.length]; rw [sizeLine_eq]; omega), _, upd_same, RepPK.step (Step.write hi) _ _ (h2.put ek rv)⟩
  | true =>
    obtain ⟨kvs, h1, h2⟩ := ok
    cases k <;> first | (cases hk; done) | skip
    rename_i kl
    have hk : (kl.all isAtom && !kl.isEmpty) = true := hk
    rw [Bool.and_eq_true] at hk
    obtain ⟨ks, e2⟩ := atoms_key hk.1
    obtain ⟨b, xs, ey, tp, r2⟩ := rk
    subst ey
    have ex := keys_rep e2 r2
    rcases tp with tp | tp
    · exact ⟨_, DPut.t h1 (by rw [← ex]; exact tp.2) (by rw [← h2.length]; rw [sizeLine_eq]; omega), _, upd_same, RepPT.step (Step.write hi) _ _ (h2.put (k := .tup kl) e2 rv)⟩
    · rw [tp.1] at r2
      cases kl with
      | nil => exact nomatch hk.2
      | cons d r => obtain ⟨_, _, z, _⟩ := r2; cases z
end
/-! ### the rules -/
section
variable {X : Cx} {T : Tb} {W : WX} {pos : Pos} {elt kx vx tg iter c : Expr} {ifs : List Expr} {scope : Scope} {own : List (Str × Nat)} {src : DI} {g : DG} {t : DT} {el ky vl : DE} {is : List Nat}
theorem ts_nil : PTs X [] (tT X.K T W tYs) := ⟨fun pins s σ H Q I ⟨κ, st, env, c, a⟩ => pts_nil.run pins s σ H Q I (After.retd c.rel a)⟩
theorem ts_one (h : PT X c (tT X.K T W t)) : PTs X [c] (tT X.K T W t) := pts_one h
/-- one turn's sight -/
structure Sight (K : PySem.W.Frag) (T : Tb) (W : WX) (σ : L2.St) (κ1 : Kap) (H1 : Hp) (D : Addr) (H2 : Hp) (σ0 : L2.St) (env0 : DEnv) (H : Hp) (κ : Kap) (st : Sto) : Prop where
  step : Step (κ1 ++ [some D]) H2 κ H
  cf : Cf K T σ0 κ H st env0
theorem lc_turn {K : PySem.W.Frag} {σ σ0 : L2.St} {κ1 κ : Kap} {H1 H : Hp} {ad : DEnv → M Unit} {fin : Unit → M Val} {P : Val → Sto → Kap → Hp → Prop} {m i : Nat} {s : Src} {env0 : DEnv} {st : Sto} {J : It} {κ0 : Kap} {H0 : Hp}
    (wk : Wk K T J κ0 H0 s) (t0 : Step κ0 H0 κ H) (c0 : Cf K T σ0 κ H st env0) (h : After K T W σ κ1 H1 (bnd (lcD g t ad (m + 1) s i env0) fin st) P) :
    (J.stop i H ∧ After K T W σ κ1 H1 (fin () st) P) ∨ (J.go i H ∧ ∃ d e2, g d env0 = some e2 ∧ (∀ x H2, J.yld i H x H2 → Step κ H κ H2 ∧ Rel K T κ H2 st ∧ Rep K T κ H2 d x) ∧
      After K T W σ κ1 H1 (bnd (noX (t e2)) (fun b => if b then bnd (ad e2) fun _ => bnd (lcD g t ad m s (i + 1) env0) fin else bnd (lcD g t ad m s (i + 1) env0) fin) st) P) := by
  have h : After K T W σ κ1 H1 (bnd (turnM g t (fun e1 => bnd (ad e1) fun _ => lcD g t ad m s (i + 1) env0) (lcD g t ad m s (i + 1) env0) env0 (cur s i st)) fin st) P := h
  cases q : cur s i st with
  | none => rw [q] at h; exact h.elim
  | some o =>
    rw [q] at h
    have w := wk κ H st t0 c0.rel i o q
    cases o with
    | none => exact .inl ⟨w, h⟩
    | some d =>
      have h : After K T W σ κ1 H1 (bnd (match g d env0 with | none => stk | some e1 => bnd (noX (t e1)) fun b => if b then bnd (ad e1) fun _ => lcD g t ad m s (i + 1) env0 else lcD g t ad m s (i + 1) env0) fin st) P := h
      cases q2 : g d env0 with
      | none => rw [q2] at h; exact h.elim
      | some e2 =>
        rw [q2] at h
        refine .inr ⟨w.1, d, e2, q2, w.2, ?_⟩
        have h : After K T W σ κ1 H1 (bnd (bnd (noX (t e2)) fun b => if b then bnd (ad e2) fun _ => lcD g t ad m s (i + 1) env0 else lcD g t ad m s (i + 1) env0) fin st) P := h
        rw [bnd_assoc] at h
        have e3 : (fun b : Bool => bnd (if b then bnd (ad e2) fun _ => lcD g t ad m s (i + 1) env0 else lcD g t ad m s (i + 1) env0) fin) = fun b : Bool => if b then bnd (ad e2) fun _ => bnd (lcD g t ad m s (i + 1) env0) fin else bnd (lcD g t ad m s (i + 1) env0) fin := by
          funext b
          cases b with
          | true => exact bnd_assoc _ _ _
          | false => rfl
        rw [e3] at h
        exact h
theorem comp_start {σ : L2.St} {H : Hp} {c : Cel} {ad : Nat → DEnv → M Unit} {vs : List Nat} {fin : Nat → M Val} {Q : VK} (h : tE X.K T W (comp src g t c ad vs fin) σ H Q) :
    tI X.K T W src σ H fun J H1 => ∃ κ1 st1 env s, Cf X.K T σ κ1 H1 st1 env ∧ Wk X.K T J κ1 H1 s ∧ After X.K T W σ κ1 H1 (bnd (lcD g t (ad κ1.length) (fuelOf s) s 0 (wipeD env vs)) (fun _ => fin κ1.length) (st1 ++ [some c])) (PV X.K T Q) := by
  obtain ⟨κ, st, env, c, a⟩ := h
  refine ⟨κ, st, env, c, a.bind.imp fun s st1 κ1 H1 s1 e1 a1 J wk => ⟨κ1, st1, env, s, c.step s1 e1, wk, ?_⟩⟩
  rw [e1.len]
  exact a1
theorem take_set {α : Type} (l : List α) (n : Nat) (x : α) : (l.set n x).take n = l.take n := by
  apply List.ext_getElem?
  intro i
  rw [List.getElem?_take, List.getElem?_take]
  by_cases h : i < n
  · rw [if_pos h, if_pos h, List.getElem?_set_ne (by omega)]
  · rw [if_neg h, if_neg h]
theorem drop_ok {K : PySem.W.Frag} {σ : L2.St} {κ1 κ : Kap} {H1 H H2 : Hp} {D : Addr} {st : Sto} {Q : VK} (hD : H1 D = none) (t : Step (κ1 ++ [some D]) H2 κ H) (t1 : Step κ1 H1 κ H) (r : Rel K T κ H st)
    (h : After K T W σ κ1 H1 (dropTo κ1.length st) (PV K T Q)) : Q (.ref D) H ∨ ∃ u, H D = some u ∧ Mut (some u) ∧ ∀ od, Q (.ref D) (upd H D (.frz od u)) := by
  unfold dropTo at h
  cases q : st[κ1.length]? with
  | none => rw [q] at h; exact h.elim
  | some o =>
    rw [q] at h
    cases o with
    | none => exact h.elim
    | some cl =>
      obtain ⟨a, ex, hk, ok⟩ := r.addr q t.self
      cases ex
      have hout : some D ∉ κ.take κ1.length := fun hm => by
        obtain ⟨i, hi⟩ := List.mem_iff_getElem?.mp hm
        obtain ⟨hi1, hi2⟩ := getElem?_take_some hi
        have := r.inj i κ1.length D hi2 hk
        omega
      cases cl with
      | ins _ _ => exact h.elim
      | lst l =>
        obtain ⟨z, h⟩ : (st.take κ1.length).all (celOk κ1.length) = true ∧ After K T W σ κ1 H1 (.ok (.d (.lst l)) (st.take κ1.length)) (PV K T Q) := by
          have h : After K T W σ κ1 H1 (if (st.take κ1.length).all (celOk κ1.length) = true then .ok (.d (.lst l)) (st.take κ1.length) else .stuck) (PV K T Q) := h
          by_cases z : (st.take κ1.length).all (celOk κ1.length) = true
          · rw [if_pos z] at h; exact ⟨z, h⟩
          · rw [if_neg z] at h; exact h.elim
        obtain ⟨xs, h1, h2⟩ := ok
        exact .inl (h _ H t1.cut (r.less _ z) _ ⟨D, xs, rfl, ⟨hout, h1⟩, RepL.less _ l xs h2⟩)
      | dic kt l =>
        obtain ⟨z, h⟩ : (st.take κ1.length).all (celOk κ1.length) = true ∧ After K T W σ κ1 H1 (.ok (.d (.dic kt l)) (st.take κ1.length)) (PV K T Q) := by
          have h : After K T W σ κ1 H1 (if (st.take κ1.length).all (celOk κ1.length) = true then .ok (.d (.dic kt l)) (st.take κ1.length) else .stuck) (PV K T Q) := h
          by_cases z : (st.take κ1.length).all (celOk κ1.length) = true
          · rw [if_pos z] at h; exact ⟨z, h⟩
          · rw [if_neg z] at h; exact h.elim
        have go : ∀ (u : HO), H D = some u → Mut (some u) → (∀ od, Rep K T (κ.take κ1.length) (upd H D (.frz od u)) (.dic kt l) (.ref D)) → Q (.ref D) H ∨ ∃ u, H D = some u ∧ Mut (some u) ∧ ∀ od, Q (.ref D) (upd H D (.frz od u)) := fun u hu mu hr => by
          refine .inr ⟨u, hu, mu, fun od => ?_⟩
          have hs : ∀ b, b ≠ D → upd H D (.frz od u) b = H b := fun b hb => upd_ne hb
          have dm : ∀ b, upd H D (.frz od u) b = none → H b = none := fun b e => by
            by_cases hb : b = D
            · rw [hb, upd_same] at e; cases e
            · rw [upd_ne hb] at e; exact e
          have sp : Step κ H (κ.set κ1.length none) (upd H D (.frz od u)) := Step.drop hk dm hs
          have r2 := r.drop hk sp hs
          have e1 : (κ.set κ1.length none).take κ1.length = κ.take κ1.length := take_set _ _ _
          have e2 : (st.set κ1.length none).take κ1.length = st.take κ1.length := take_set _ _ _
          have r3 := r2.less κ1.length (by rw [e2]; exact z)
          rw [e1, e2] at r3
          have c := t1.cut
          refine h _ _ ⟨c.len, c.old, c.new, fun b o e n => ?_, fun b e => c.dom b (dm b e)⟩ r3 _ (hr od)
          rw [hs b fun q => by rw [q, hD] at e; cases e]
          exact c.fr b o e n
        have st2 : ∀ (u : HO) (od : Obj), H D = some u → Step κ H (κ.set κ1.length none) (upd H D (.frz od u)) := fun u od hu => Step.drop hk (fun b e => by
            by_cases hb : b = D
            · rw [hb, upd_same] at e; cases e
            · rw [upd_ne hb] at e; exact e) fun b hb => upd_ne hb
        have e1 : (κ.set κ1.length none).take κ1.length = κ.take κ1.length := take_set _ _ _
        cases kt with
        | false =>
          obtain ⟨kvs, h1, h2⟩ := ok
          refine go _ h1 True.intro fun od => ⟨D, od, kvs, rfl, hout, upd_same, ?_⟩
          have := RepPK.less κ1.length l kvs (RepPK.step (st2 _ od h1) l kvs h2)
          rwa [e1] at this
        | true =>
          obtain ⟨kvs, h1, h2⟩ := ok
          refine go _ h1 True.intro fun od => ⟨D, od, kvs, rfl, hout, upd_same, ?_⟩
          have := RepPT.less κ1.length l kvs (RepPT.step (st2 _ od h1) l kvs h2)
          rwa [e1] at this
/-- behind the last turn -/
theorem fin_ok {K : PySem.W.Frag} {σ : L2.St} {κ1 κ : Kap} {H1 H H2 : Hp} {D : Addr} {st : Sto} {Q : VK} {keep : Bool} (hD : H1 D = none) (t : Step (κ1 ++ [some D]) H2 κ H) (t1 : Step κ1 H1 κ H) (r : Rel K T κ H st)
    (h : After K T W σ κ1 H1 ((if keep then ret (.cell κ1.length) else dropTo κ1.length) st) (PV K T Q)) : Q (.ref D) H ∨ ∃ u, H D = some u ∧ Mut (some u) ∧ ∀ od, Q (.ref D) (upd H D (.frz od u)) := by
  cases keep with
  | true => exact .inl (h κ H t1 r _ t.self)
  | false => exact drop_ok hD t t1 r h
theorem finL_ok {K : PySem.W.Frag} {σ : L2.St} {κ1 κ : Kap} {H1 H H2 : Hp} {D : Addr} {st : Sto} {Q : VK} {keep : Bool} (hD : H1 D = none) (t : Step (κ1 ++ [some D]) H2 κ H) (t1 : Step κ1 H1 κ H) (r : Rel K T κ H st)
    (h : After K T W σ κ1 H1 (finL keep κ1.length st) (PV K T Q)) : Q (.ref D) H := by
  cases keep with
  | true => exact h κ H t1 r _ t.self
  | false =>
    have h : After K T W σ κ1 H1 (dropL κ1.length st) (PV K T Q) := h
    unfold dropL at h
    cases q : st[κ1.length]? with
    | none => rw [q] at h; exact h.elim
    | some o =>
      rw [q] at h
      cases o with
      | none => exact h.elim
      | some cl =>
        cases cl with
        | ins _ _ => exact h.elim
        | dic _ _ => exact h.elim
        | lst l =>
          obtain ⟨a, ex, hk, xs, h1, h2⟩ := r.addr q t.self
          cases ex
          have h : After K T W σ κ1 H1 (if (st.take κ1.length).all (celOk κ1.length) = true then .ok (.d (.lst l)) (st.take κ1.length) else .stuck) (PV K T Q) := h
          by_cases z : (st.take κ1.length).all (celOk κ1.length) = true
          · rw [if_pos z] at h
            have hout : some D ∉ κ.take κ1.length := fun hm => by
              obtain ⟨i, hi⟩ := List.mem_iff_getElem?.mp hm
              obtain ⟨hi1, hi2⟩ := getElem?_take_some hi
              have := r.inj i κ1.length D hi2 hk
              omega
            exact h _ H t1.cut (r.less _ z) _ ⟨D, xs, rfl, ⟨hout, h1⟩, RepL.less _ l xs h2⟩
          · rw [if_neg z] at h; exact h.elim
theorem wipe_wipe : ∀ (vs : List Nat) (σ : L2.St), L2.wipe (L2.wipe σ vs) vs = L2.wipe σ vs := by
  intro vs σ
  apply List.ext_getElem?
  intro i
  by_cases h : i ∈ vs
  · have key : ∀ (vs : List Nat) (σ : L2.St), i ∈ vs → (L2.wipe σ vs)[i]? = if i < σ.length then some none else none := by
      intro vs
      induction vs with
      | nil => intro σ h; cases h
      | cons v vs ih =>
        intro σ h
        unfold L2.wipe
        by_cases z : v = i
        · subst z
          by_cases hl : v < σ.length
          · rw [if_pos hl, List.getElem?_set_self (by rw [wipe_length]; exact hl)]
          · rw [if_neg hl, List.getElem?_eq_none (by rw [List.length_set, wipe_length]; omega)]
        · rw [List.getElem?_set_ne z]
          exact ih σ ((List.mem_cons.mp h).resolve_left fun q => z q.symm)
    rw [key vs _ h, key vs _ h, wipe_length]
  · rw [wipe_out h]
theorem tI_mono {σ : L2.St} {H : Hp} {R R' : It → Hp → Prop} (h : tI X.K T W src σ H R) (i : ∀ J H', R J H' → R' J H') : tI X.K T W src σ H R' := by
  obtain ⟨κ, st, env, c, a⟩ := h
  exact ⟨κ, st, env, c, a.imp fun s _ κ' H' _ _ q J w => i J H' (q J w)⟩
/-- or locked -/
abbrev OrL (Q : VK) : VK := fun v H => Q v H ∨ ∃ a u, v = .ref a ∧ H a = some u ∧ Mut (some u) ∧ ∀ od, Q v (upd H a (.frz od u))
theorem OrL.of {Q : VK} {D : Addr} {H : Hp} (h : Q (.ref D) H ∨ ∃ u, H D = some u ∧ Mut (some u) ∧ ∀ od, Q (.ref D) (upd H D (.frz od u))) : OrL Q (.ref D) H :=
  h.elim .inl fun ⟨u, h1, h2, h3⟩ => .inr ⟨D, u, rfl, h1, h2, h3⟩
theorem lc_read {vs : List Nat} {keep : Bool} {σ : L2.St} {H : Hp} {Q : VK} (his : ∀ i ∈ is, i ∈ vs)
    (h : tI X.K T W src σ H fun J H1 => ∃ κ1 st1 env s, Cf X.K T σ κ1 H1 st1 env ∧ Wk X.K T J κ1 H1 s ∧ After X.K T W σ κ1 H1 (bnd (lcD g t (addL el κ1.length) (fuelOf s) s 0 (wipeD env vs)) (fun _ => finL keep κ1.length) (st1 ++ [some (.lst [])])) (PV X.K T Q)) :
    tLc (tI X.K T W src) (tG X.K T is g) (tT X.K T WF t) (tE X.K T WF el) vs σ H Q := tI_mono h fun J H1 hJ D hD => by
  obtain ⟨κ1, st1, env, s, c1, wk, a⟩ := hJ
  have s2 : Step κ1 H1 (κ1 ++ [some D]) (upd H1 D (.lst [])) := Step.grow c1.rel hD
  have r2 := c1.rel.grow (D := D) (o := .lst []) (c := .lst []) hD ⟨[], upd_same, rfl⟩
  refine ⟨fun i m H' => ∃ κ' st', Step (κ1 ++ [some D]) (upd H1 D (.lst [])) κ' H' ∧ Cf X.K T (L2.wipe σ vs) κ' H' st' (wipeD env vs) ∧
    After X.K T W σ κ1 H1 (bnd (lcD g t (addL el κ1.length) m s i (wipeD env vs)) (fun _ => finL keep κ1.length) st') (PV X.K T Q),
    ⟨fuelOf s, _, _, Step.refl _ _, ⟨r2, (c1.env.step s2).wipe vs⟩, a⟩, ?_⟩
  rintro i m H' ⟨κ', st', t', c', a'⟩
  cases m with
  | zero => exact a'.elim
  | succ m =>
    rcases lc_turn wk (s2.trans t') c' a' with ⟨stop, a2⟩ | ⟨go, d, e2, q2, hy, a2⟩
    · exact .inl ⟨stop, finL_ok hD t' (s2.trans t') c'.rel a2⟩
    · refine .inr ⟨go, fun H3 => ∃ κ3 st3, Step (κ1 ++ [some D]) (upd H1 D (.lst [])) κ3 H3 ∧ Cf X.K T (L2.wipe σ vs) κ3 H3 st3 (wipeD env vs) ∧
        After X.K T W σ κ1 H1 (bnd (lcD g t (addL el κ1.length) m s (i + 1) (wipeD env vs)) (fun _ => finL keep κ1.length) st3) (PV X.K T Q), fun H3 h3 => ⟨m, Nat.lt_succ_self m, h3⟩, fun x H2 y => ?_⟩
      obtain ⟨sy, ry, rx⟩ := hy x H2 y
      have c2 := c'.step sy ry
      refine ⟨κ', st', _, d, e2, c2, rx, q2, fun σ2 c3 hw => ⟨by rw [hw vs his, wipe_wipe], ?_⟩⟩
      refine ⟨κ', st', e2, c3, (noXd a2).imp fun b st3 κ3 H3 s3 r3 a3 => ?_⟩
      cases b with
      | false => exact iteF ⟨κ3, st3, (t'.trans sy).trans s3, c2.step s3 r3, a3⟩
      | true =>
        have a3 : After X.K T W σ κ1 H1 (bnd (bnd (noX (el e2)) fun v => bnd (plain v) fun x => pushC κ1.length x) (fun _ => bnd (lcD g t (addL el κ1.length) m s (i + 1) (wipeD env vs)) (fun _ => finL keep κ1.length)) st3) (PV X.K T Q) := a3
        rw [bnd_assoc] at a3
        refine iteT ⟨κ3, st3, e2, c3.step s3 r3, (noXd a3).imp fun v st4 κ4 H4 s4 r4 a4 y ry => ?_⟩
        rw [bnd_assoc] at a4
        obtain ⟨z, ez, a5⟩ := plainB a4
        subst ez
        have t4 := ((t'.trans sy).trans s3).trans s4
        cases q : st4[κ1.length]? with
        | none => rw [bnd_stk (by unfold pushC; rw [q])] at a5; exact a5.elim
        | some o =>
          cases o with
          | none => rw [bnd_stk (by unfold pushC; rw [q])] at a5; exact a5.elim
          | some cl =>
            cases cl with
            | ins _ _ => rw [bnd_stk (by unfold pushC; rw [q])] at a5; exact a5.elim
            | dic _ _ => rw [bnd_stk (by unfold pushC; rw [q])] at a5; exact a5.elim
            | lst l =>
              by_cases hl : l.length < 1000000
              · rw [bnd_ok (a := ()) (s' := st4.set κ1.length (some (.lst (l ++ [z])))) (by unfold pushC; rw [q]; exact if_pos hl)] at a5
                obtain ⟨ad, ex, hk, xs, h1, h2⟩ := r4.addr q t4.self
                cases ex
                have sw : Step κ4 H4 κ4 (upd H4 D (.lst (xs ++ [y]))) := Step.write hk
                have rw4 := r4.write (o := .lst (xs ++ [y])) (c := .lst (l ++ [z])) hk ⟨_, upd_same, RepL.app (RepL.step sw _ _ h2) ⟨y, [], rfl, Rep.step sw _ _ ry, rfl⟩⟩
                exact ⟨xs, h1, by rw [← RepL.length h2, sizeLine_eq]; omega, κ4, _, t4.trans sw, ⟨rw4, ((c2.step s3 r3).env.step s4).step sw⟩, a5⟩
              · rw [bnd_stk (by unfold pushC; rw [q]; exact if_neg hl)] at a5; exact a5.elim
/-- [el for .. in .. if ..] -/
theorem e_lc {keep : Bool} (hc : X.calm = true) (hN : X.N.Nodup) (hi : PI X tg iter (tI X.K T W src)) (ok : BlkOk X.N X.env.scope scope own) (his : ∀ i ∈ is, i ∈ own.map (·.2))
    (hg : ∀ (s : Shared) (H : Hp) (C : Addr) (cl : List (Str × Addr)) (fp : List Addr), PG (X.blk s H scope (compEnvC scope cl C X.env) fp) tg (tG X.K T is g))
    (ht : ∀ (s : Shared) (H : Hp) (C : Addr) (cl : List (Str × Addr)) (fp : List Addr), PTs (X.blk s H scope (compEnvC scope cl C X.env) fp) ifs (tT X.K T WF t))
    (he : ∀ (s : Shared) (H : Hp) (C : Addr) (cl : List (Str × Addr)) (fp : List Addr), PE (X.blk s H scope (compEnvC scope cl C X.env) fp) elt (tE X.K T WF el))
    (hs : ∀ x, foldedSetIterable iter X.env x = pure x := by intro _; rfl) : PE X (.ListComp elt [⟨tg, iter, ifs, 0⟩] scope pos) (tE X.K T W (dLc src g t el (own.map (·.2)) keep)) :=
  pe_imp (pe_lc hc hN hi ok hg ht he hs) fun σ H Q h => lc_read his (comp_start h)
/-- name = [el for .. in .. if ..], the name a plain local, on one line -/
theorem s_setLc {i : Nat} {y : Str} {py spos : Pos} {keep : Bool} (hc : X.calm = true) (hN : X.N.Nodup) (hy : X.N[i]? = some y) (hyl : X.env.scope.names.lookup y = some .local)
    (hsw : swapsWith (.ListComp elt [⟨tg, iter, ifs, 0⟩] scope pos) (some (.Name y py)) spos.line X.env = pure true) (hi : PI X tg iter (tI X.K T W src)) (ok : BlkOk X.N X.env.scope scope own) (his : ∀ i ∈ is, i ∈ own.map (·.2))
    (hg : ∀ (s : Shared) (H : Hp) (C : Addr) (cl : List (Str × Addr)) (fp : List Addr), PG (X.blk s H scope (compEnvC scope cl C X.env) fp) tg (tG X.K T is g))
    (ht : ∀ (s : Shared) (H : Hp) (C : Addr) (cl : List (Str × Addr)) (fp : List Addr), PTs (X.blk s H scope (compEnvC scope cl C X.env) fp) ifs (tT X.K T WF t))
    (he : ∀ (s : Shared) (H : Hp) (C : Addr) (cl : List (Str × Addr)) (fp : List Addr), PE (X.blk s H scope (compEnvC scope cl C X.env) fp) elt (tE X.K T WF el))
    (hs : ∀ x, foldedSetIterable iter X.env x = pure x := by intro _; rfl) : PS X (.Assign [.Name y py] (.ListComp elt [⟨tg, iter, ifs, 0⟩] scope pos) spos) (tS X.K T W (sSet i (dLc src g t el (own.map (·.2)) keep))) :=
  ps_imp (ps_setLc hc hN hy hyl hsw hi ok hg ht he hs) fun D σ H ⟨κ, st, env, c, a⟩ => lc_read (Q := fun u H1 => D.nx (σ.set i (some u)) H1) his (comp_start (fin := finL keep) ⟨κ, st, env, c, (AftS.bndd c a).imp fun v st1 κ1 H1 t1 e1 a1 u r => AftS.nxd ⟨e1, (c.env.step t1).set i r⟩ a1⟩)
theorem dc_read {vs : List Nat} {kt : Bool} {σ : L2.St} {H : Hp} {Q : VK} (his : ∀ i ∈ is, i ∈ vs)
    (h : tI X.K T W src σ H fun J H1 => ∃ κ1 st1 env s, Cf X.K T σ κ1 H1 st1 env ∧ Wk X.K T J κ1 H1 s ∧ After X.K T W σ κ1 H1 (bnd (lcD g t (addD ky vl κ1.length) (fuelOf s) s 0 (wipeD env vs)) (fun _ => dropTo κ1.length) (st1 ++ [some (.dic kt [])])) (PV X.K T Q)) :
    tDcP kt (tI X.K T W src) (tG X.K T is g) (tT X.K T WF t) (tE X.K T WF ky) (tE X.K T WF vl) vs σ H (OrL Q) := tI_mono h fun J H1 hJ D hD => by
  obtain ⟨κ1, st1, env, s, c1, wk, a⟩ := hJ
  have s2 : Step κ1 H1 (κ1 ++ [some D]) (upd H1 D (nul kt)) := Step.grow c1.rel hD
  have r2 := c1.rel.grow (D := D) (o := nul kt) (c := .dic kt []) hD (by cases kt <;> exact ⟨[], upd_same, rfl⟩)
  refine ⟨fun i m H' => ∃ κ' st', Step (κ1 ++ [some D]) (upd H1 D (nul kt)) κ' H' ∧ Cf X.K T (L2.wipe σ vs) κ' H' st' (wipeD env vs) ∧
    After X.K T W σ κ1 H1 (bnd (lcD g t (addD ky vl κ1.length) m s i (wipeD env vs)) (fun _ => dropTo κ1.length) st') (PV X.K T Q),
    ⟨fuelOf s, _, _, Step.refl _ _, ⟨r2, (c1.env.step s2).wipe vs⟩, a⟩, ?_⟩
  rintro i m H' ⟨κ', st', t', c', a'⟩
  cases m with
  | zero => exact a'.elim
  | succ m =>
    rcases lc_turn wk (s2.trans t') c' a' with ⟨stop, a2⟩ | ⟨go, d, e2, q2, hy, a2⟩
    · exact .inl ⟨stop, OrL.of (drop_ok hD t' (s2.trans t') c'.rel a2)⟩
    · refine .inr ⟨go, fun H3 => ∃ κ3 st3, Step (κ1 ++ [some D]) (upd H1 D (nul kt)) κ3 H3 ∧ Cf X.K T (L2.wipe σ vs) κ3 H3 st3 (wipeD env vs) ∧
        After X.K T W σ κ1 H1 (bnd (lcD g t (addD ky vl κ1.length) m s (i + 1) (wipeD env vs)) (fun _ => dropTo κ1.length) st3) (PV X.K T Q), fun H3 h3 => ⟨m, Nat.lt_succ_self m, h3⟩, fun x H2 y => ?_⟩
      obtain ⟨sy, ry, rx⟩ := hy x H2 y
      have c2 := c'.step sy ry
      refine ⟨κ', st', _, d, e2, c2, rx, q2, fun σ2 c3 hw => ⟨by rw [hw vs his, wipe_wipe], ?_⟩⟩
      refine ⟨κ', st', e2, c3, (noXd a2).imp fun b st3 κ3 H3 s3 r3 a3 => ?_⟩
      cases b with
      | false => exact iteF ⟨κ3, st3, (t'.trans sy).trans s3, c2.step s3 r3, a3⟩
      | true =>
        have a3 : After X.K T W σ κ1 H1 (bnd (bnd (noX (ky e2)) fun v => bnd (noX (vl e2)) fun u => bnd (plain v) fun x => bnd (plain u) fun y => putC κ1.length x y) (fun _ => bnd (lcD g t (addD ky vl κ1.length) m s (i + 1) (wipeD env vs)) (fun _ => dropTo κ1.length)) st3) (PV X.K T Q) := a3
        rw [bnd_assoc] at a3
        refine iteT ⟨κ3, st3, e2, c3.step s3 r3, (noXd a3).imp fun v st4 κ4 H4 s4 r4 a4 y ry => ?_⟩
        rw [bnd_assoc] at a4
        refine ⟨κ4, st4, e2, (c3.step s3 r3).step s4 r4, (noXd a4).imp fun u st5 κ5 H5 s5 r5 a5 z rz => ?_⟩
        rw [bnd_assoc] at a5
        obtain ⟨kd, ez, a6⟩ := plainB a5
        subst ez
        rw [bnd_assoc] at a6
        obtain ⟨vd, ez, a7⟩ := plainB a6
        subst ez
        have t5 := (((t'.trans sy).trans s3).trans s4).trans s5
        cases q : st5[κ1.length]? with
        | none => rw [bnd_stk (by unfold putC; rw [q])] at a7; exact a7.elim
        | some o =>
          cases o with
          | none => rw [bnd_stk (by unfold putC; rw [q])] at a7; exact a7.elim
          | some cl =>
            cases cl with
            | ins _ _ => rw [bnd_stk (by unfold putC; rw [q])] at a7; exact a7.elim
            | lst _ => rw [bnd_stk (by unfold putC; rw [q])] at a7; exact a7.elim
            | dic t2 l =>
              by_cases hl : isKey t2 kd = true ∧ l.length < 1000000
              · rw [bnd_ok (a := ()) (s' := st5.set κ1.length (some (.dic t2 (Fb.put kd vd l)))) (by unfold putC; rw [q]; exact if_pos hl)] at a7
                obtain ⟨ad, ex, hk, ok⟩ := r5.addr q t5.self
                cases ex
                obtain ⟨o, hp, hc⟩ := put_cell (List.mem_of_getElem? hk) ok hl.1 hl.2 (Rep.step s5 _ _ ry) rz
                have sw : Step κ5 H5 κ5 (upd H5 D o) := Step.write hk
                exact ⟨_, hp, κ5, _, t5.trans sw, ⟨r5.write hk hc, (((c2.step s3 r3).env.step s4).step s5).step sw⟩, a7⟩
              · rw [bnd_stk (by unfold putC; rw [q]; exact if_neg hl)] at a7; exact a7.elim
/-- {ky: vl for .. in .. if ..} -/
theorem e_dc {kt : Bool} (hu : X.A.units + 1 < cLine) (hc : X.calm = true) (hN : X.N.Nodup) (hi : PI X tg iter (tI X.K T W src)) (ok : BlkOk X.N X.env.scope scope own) (his : ∀ i ∈ is, i ∈ own.map (·.2))
    (hg : ∀ (s : Shared) (H : Hp) (C : Addr) (cl : List (Str × Addr)) (fp : List Addr), PG (X.blk s H scope (compEnvC scope cl C X.env) fp) tg (tG X.K T is g))
    (ht : ∀ (s : Shared) (H : Hp) (C : Addr) (cl : List (Str × Addr)) (fp : List Addr), PTs (X.blk s H scope (compEnvC scope cl C X.env) fp) ifs (tT X.K T WF t))
    (hk : ∀ (s : Shared) (H : Hp) (C : Addr) (cl : List (Str × Addr)) (fp : List Addr), PE (X.blk s H scope (compEnvC scope cl C X.env) fp) kx (tE X.K T WF ky))
    (he : ∀ (s : Shared) (H : Hp) (C : Addr) (cl : List (Str × Addr)) (fp : List Addr), PE (X.blk s H scope (compEnvC scope cl C X.env) fp) vx (tE X.K T WF vl))
    (hs : ∀ x, foldedSetIterable iter X.env x = pure x := by intro _; rfl) : PE X (.DictComp kx vx [⟨tg, iter, ifs, 0⟩] scope pos) (tE X.K T W (dDc kt src g t ky vl (own.map (·.2)))) :=
  pe_imp (pe_locked (pe_dcP (kt := kt) hu hc hN hi ok hg ht hk he hs)) fun σ H Q h => dc_read his (comp_start h)
end
end Fb
/-! FbB -/
/-! FbB: built-in functions. -/
namespace Fb
open PySem PySem.Spec PyProof.Rows L2
/-! ### plain -/
def okS (z : Str) : Bool := decide (z.length ≤ 1000000)
def lenD : D → M Val
  | .lst l => ret (.d (.int (l.length : Nat)))
  | .tup l => ret (.d (.int (l.length : Nat)))
  | .arr l => ret (.d (.int (l.length : Nat)))
  | .dic _ l => ret (.d (.int (l.length : Nat)))
  | .str z => if okS z = true then ret (.d (.int (z.length : Nat))) else stk
  | _ => stk
def one (k : D → M Val) : List Val → M Val
  | [v] => bnd (snap v) k
  | _ => stk
def bLen : List Val → M Val := one lenD
def bools : List D → Option (List Bool)
  | [] => some []
  | .bl b :: r => (bools r).map (b :: ·)
  | _ => none
def nums : List D → Option (List Int)
  | [] => some []
  | .int b :: r => (nums r).map (b :: ·)
  | _ => none
def overL {α : Type} (f : List D → Option α) (k : α → D) : List Val → M Val
  | [.d (.lst l)] => bnd (optM (f l)) fun a => ret (.d (k a))
  | _ => stk
def bAll : List Val → M Val := overL bools fun bs => .bl (bs.all id)
def bAny : List Val → M Val := overL bools fun bs => .bl (bs.any id)
def bSum : List Val → M Val := overL nums fun ns => .int ns.sum
def bAbs : List Val → M Val
  | [.d (.int i)] => ret (.d (.int (if i < 0 then -i else i)))
  | _ => stk
def mkL (keep : Bool) (l : List D) : M Val := if keep then newCell (.lst l) else ret (.d (.lst l))
def listD (keep : Bool) : D → M Val
  | .lst l => mkL keep l
  | .tup l => mkL keep l
  | .arr l => mkL keep (l.map .int)
  | .dic _ l => mkL keep (l.map (·.1))
  | .str z => if okS z = true then mkL keep (chars z) else stk
  | _ => stk
def bList (keep : Bool) : List Val → M Val := one (listD keep)
def tupD : D → M Val
  | .lst l => ret (.d (.tup l))
  | .tup l => ret (.d (.tup l))
  | .arr l => ret (.d (.tup (l.map .int)))
  | _ => stk
def bTuple : List Val → M Val := one tupD
/-- kinds of values -/
inductive Tg where
  | non | bl | int | str | tup | lst | dic | ins (c : Nat)
def tagD : D → Tg
  | .non => .non
  | .bl _ => .bl
  | .int _ => .int
  | .str _ => .str
  | .tup _ => .tup
  | .lst _ => .lst
  | .arr _ => .lst
  | .dic _ _ => .dic
  | .ins c _ => .ins c
def tagV : Val → M Tg
  | .d x => ret (tagD x)
  | .cell k => fun s => match s[k]? with
    | some (some (.lst _)) => .ok .lst s
    | some (some (.dic _ _)) => .ok .dic s
    | some (some (.ins c _)) => .ok (.ins c) s
    | _ => .stuck
def dIsi (q : Tg → Option Bool) (a : DE) : DE := fun e => bnd (a e) fun v => bnd (tagV v) fun t => bnd (optM (q t)) fun b => ret (.d (.bl b))
/-! ### the rule for them all -/
def rB (K : PySem.W.Frag) (T : Tb) (k : List Val → M Val) : List V → Hp → VK → Prop := fun us H Q => ∃ κ st vs σ W, Rel K T κ H st ∧ RepVals K T κ H vs us ∧ After K T W σ κ H (k vs st) (PV K T Q)
section
variable {X : Cx} {T : Tb} {W : WX} {a c e : Expr} {es : List Expr} {f : DE} {da : DA} {k : List Val → M Val} {σ : L2.St} {κ : Kap} {H : Hp} {st : Sto} {x nm id : Str}
theorem tA_rB {σ : L2.St} {H : Hp} {Q : VK} (h : tE X.K T W (fun e => bnd (da e) k) σ H Q) : tA X.K T W da σ H fun us H1 => rB X.K T k us H1 Q := by
  obtain ⟨κ, st, env, c, a⟩ := h
  exact ⟨κ, st, env, c, a.bind.imp fun vs st1 κ1 H1 s1 e1 a1 us ru => ⟨κ1, st1, vs, σ, W, e1, ru, a1⟩⟩
theorem e_blt {id : String} {p pos : Pos} (hc : CallR X (.builtin id) (rB X.K T k)) (hg : Gl X x) (hm : X.mg x = none) (hv : bootBuiltins x = some (.builtin id)) (ha : PA X (e :: es) (tA X.K T W da)) (hn : x ≠ "__name__" := by decide) (hdb : (x == ("__debug__" : Str)) = false := by decide)
    (he : starEach (e :: es) X.env = (false, eval e X.env) :: starEach es X.env := by rfl) (hpl : (backTo pos (starEach es X.env)).any (·.1) = false := by rfl) : PE X (.Call (.Name x p) (e :: es) [] pos) (tE X.K T W fun e => bnd (da e) k) :=
  pe_imp (pe_callB hc hg hm hv ha hn hdb he hpl) fun σ H Q h => tA_rB h
theorem e_bty {t : String} {p pos : Pos} (hc : CallR X (.type t) (rB X.K T k)) (hg : Gl X x) (hm : X.mg x = none) (hv : bootBuiltins x = some (.type t)) (ha : PA X (e :: es) (tA X.K T W da)) (hn : x ≠ "__name__" := by decide) (hdb : (x == ("__debug__" : Str)) = false := by decide)
    (he : starEach (e :: es) X.env = (false, eval e X.env) :: starEach es X.env := by rfl) (hpl : (backTo pos (starEach es X.env)).any (·.1) = false := by rfl) : PE X (.Call (.Name x p) (e :: es) [] pos) (tE X.K T W fun e => bnd (da e) k) :=
  pe_imp (pe_callTy hc hg hm hv ha hn hdb he hpl) fun σ H Q h => tA_rB h
theorem one_val {v : Val} {us : List V} (r : RepVals X.K T κ H [v] us) : ∃ u, us = [u] ∧ RepVal X.K T κ H v u := by
  obtain ⟨u, t, e, r1, r2⟩ := r
  cases (show t = [] from r2)
  exact ⟨u, e, r1⟩
theorem okS_line {z : Str} (h : okS z = true) : z.length ≤ sizeLine := by
  have := of_decide_eq_true h
  rw [sizeLine_eq]; omega
/-! ### dicts, raw -/
theorem repK_keys : ∀ {l : List (D × D)} {kvs : List (L2.Key × V)}, RepPK X.K T κ H l kvs → RepL X.K T κ H (l.map (·.1)) (kvs.map fun p => kV p.1)
  | [], _, h => by cases (show _ = [] from h); exact rfl
  | (k, d) :: r, _, ⟨kk, x, t, e, hk, h1, h2⟩ => by subst e; exact ⟨_, _, rfl, key_back hk, repK_keys h2⟩
theorem repK_vals : ∀ {l : List (D × D)} {kvs : List (L2.Key × V)}, RepPK X.K T κ H l kvs → RepL X.K T κ H (l.map (·.2)) (kvs.map (·.2))
  | [], _, h => by cases (show _ = [] from h); exact rfl
  | (k, d) :: r, _, ⟨kk, x, t, e, hk, h1, h2⟩ => by subst e; exact ⟨_, _, rfl, h1, repK_vals h2⟩
theorem repT_vals : ∀ {l : List (D × D)} {kvs : List (List L2.Key × V)}, RepPT X.K T κ H l kvs → RepL X.K T κ H (l.map (·.2)) (kvs.map (·.2))
  | [], _, h => by cases (show _ = [] from h); exact rfl
  | (k, d) :: r, _, ⟨kk, x, t, e, hk, h1, h2⟩ => by subst e; exact ⟨_, _, rfl, h1, repT_vals h2⟩
theorem repT_keys (rr : Rel X.K T κ H st) : ∀ {l : List (D × D)} {kvs : List (List L2.Key × V)} {ys : List (List L2.Key × Addr × Value)}, RepPT X.K T κ H l kvs → KT H kvs ys → RepL X.K T κ H (l.map (·.1)) (ys.map fun y => V.ref y.2.1)
  | [], _, _, h, q => by
    cases (show _ = [] from h)
    cases q
    exact rfl
  | (k, d) :: r, _, _, ⟨kk, x, t, e, hk, h1, h2⟩, q => by
    subst e
    cases q with
    | cons h t => exact ⟨_, _, rfl, keyT_back rr hk (by have := h.2.1; exact this), repT_keys rr h2 t⟩
theorem PySem_paired {α β : Type} {F : α → β → Prop} : ∀ {xs : List α} {ys : List β}, Paired F xs ys → ∀ {i : Nat} {x : α}, xs[i]? = some x → ∃ y, ys[i]? = some y ∧ F x y
  | _, _, .nil, i, x, h => by cases h
  | _, _, .cons r t, 0, x, h => by cases h; exact ⟨_, rfl, r⟩
  | _, _, .cons r t, i + 1, x, h => PySem_paired t h
theorem now_raw {pins : List (Addr × Obj)} {s : Shared} {t : Bool} {l : List (D × D)} {x : V} (I : Inv X pins σ H s) (r : Rel X.K T κ H st) (n : Now X.K T κ H (.dic t l) x) :
    ∃ a es ep ks vs, x = .ref a ∧ (a == sysModules) = false ∧ s.heap.DictRaw a es ep ∧ es.size = l.length ∧ l.length ≤ sizeLine ∧ RepL X.K T κ H (l.map (·.1)) ks ∧ RepL X.K T κ H (l.map (·.2)) vs ∧
      Vals ks (es.toList.map (·.key)) ∧ Vals vs (es.toList.map (·.val)) := by
  have fin : ∀ {es : Array DictEntry} {ks vs : List V}, ks.length = es.size → vs.length = es.size → (∀ (i : Nat) (k v : V) (en : DictEntry), ks[i]? = some k → vs[i]? = some v → es[i]? = some en → RelV k en.key ∧ RelV v en.val) →
      Vals ks (es.toList.map (·.key)) ∧ Vals vs (es.toList.map (·.val)) := by
    intro es ks vs h1 h2 h
    have get : ∀ (j : Nat) (g : DictEntry → Value) (u : Value), (es.toList.map g)[j]? = some u → ∃ en, es[j]? = some en ∧ u = g en := by
      intro j g u hu
      rw [List.getElem?_map, Array.getElem?_toList] at hu
      cases q : es[j]? with
      | none => rw [q] at hu; cases hu
      | some en => rw [q] at hu; cases hu; exact ⟨en, rfl, rfl⟩
    constructor
    · refine vals_of_at (by rw [List.length_map, Array.length_toList]; exact h1) fun j x u hx hu => ?_
      obtain ⟨en, he, eu⟩ := get j _ u hu
      have hj : j < vs.length := by have := (Array.getElem?_eq_some_iff.mp he).1; omega
      subst eu
      exact (h j x vs[j] en hx (List.getElem?_eq_getElem hj) he).1
    · refine vals_of_at (by rw [List.length_map, Array.length_toList]; exact h2) fun j x u hx hu => ?_
      obtain ⟨en, he, eu⟩ := get j _ u hu
      have hj : j < ks.length := by have := (Array.getElem?_eq_some_iff.mp he).1; omega
      subst eu
      exact (h j ks[j] x en (List.getElem?_eq_getElem hj) hx he).2
  cases t with
  | false =>
    obtain ⟨a, kvs, ex, h, rl⟩ := n
    obtain ⟨z, hd, ys, rel, dd⟩ := dk_rd I.hok h
    obtain ⟨es, ep, raw, hsz, ent⟩ := dd.raw
    have l2 : kvs.length = ys.length := Paired.length rel
    have l3 := rl.length
    refine ⟨a, es, ep, kvs.map (fun p => kV p.1), kvs.map (·.2), ex, hd, raw, by omega, by omega, repK_keys rl, repK_vals rl, fin (by rw [List.length_map]; omega) (by rw [List.length_map]; omega) fun i k v en hk hv he => ?_⟩
    rw [List.getElem?_map] at hk hv
    cases q : kvs[i]? with
    | none => rw [q] at hk; cases hk
    | some p =>
      rw [q] at hk hv
      cases hk
      cases hv
      obtain ⟨u, hu, ru⟩ := kv_get rel (k := p.1) (v := p.2) q
      obtain ⟨hi, e2⟩ := Array.getElem?_eq_some_iff.mp he
      obtain ⟨g1, g2⟩ := ent i hi p.1 u hu
      rw [e2] at g1 g2
      exact ⟨keyIs_rel g1, by rw [g2]; exact ru⟩
  | true =>
    obtain ⟨a, kvs, ex, h, rl⟩ := n
    obtain ⟨z, hd, ys, rel, o, es, ep, ho, hx, hdt, hes, _⟩ := dt_rd I.hok h
    have l1 : es.size = ys.length := size_of_entries hes
    have l2 : kvs.length = ys.length := Paired.length rel
    have l3 := rl.length
    have hks : RepL X.K T κ H (l.map (·.1)) (ys.map fun y => V.ref y.2.1) := repT_keys r rl rel
    refine ⟨a, es, ep, ys.map (fun y => V.ref y.2.1), kvs.map (·.2), ex, hd, ⟨o, ho, hx, hdt⟩, by omega, by omega, hks, repT_vals rl, fin (by rw [List.length_map]; omega) (by rw [List.length_map]; omega) fun i k v en hk hv he => ?_⟩
    rw [List.getElem?_map] at hk hv
    cases q : kvs[i]? with
    | none => rw [q] at hv; cases hv
    | some p =>
      rw [q] at hv
      cases hv
      obtain ⟨b, hb, e1, e2, e3⟩ := PySem_paired rel q
      rw [hb] at hk
      cases hk
      have z2 := entry_at hes i
      rw [hb, he] at z2
      cases z2
      exact ⟨rfl, e3⟩
/-! ### the functions -/
theorem one_ok {k : D → M Val} {vs : List Val} {us : List V} {Q : VK} (er : Rel X.K T κ H st) (rv : RepVals X.K T κ H vs us) (a : After X.K T W σ κ H (one k vs st) (PV X.K T Q)) : ∃ u, us = [u] ∧ ∃ d, Now X.K T κ H d u ∧ After X.K T W σ κ H (k d st) (PV X.K T Q) := by
  unfold one at a
  split at a
  · obtain ⟨u, eu, ru⟩ := one_val rv
    obtain ⟨d, n, a, _⟩ := After.snapd er ru a
    exact ⟨u, eu, d, n, a⟩
  · exact a.elim
theorem c_len (hu : X.A.units < cLine) : CallR X (.builtin "len") (rB X.K T bLen) := by
  intro pins s σ H us vs Q I r ⟨κ, st, ws, σ', W, er, rv, a⟩
  obtain ⟨u, eu, d, n, a⟩ := one_ok er rv a
  subst eu
  cases d <;> first | exact a.elim | skip
  · rename_i z
    obtain ⟨hz, a⟩ := stuck_ifB a
    cases n
    exact call_len pins s σ H _ vs Q I r ⟨_, _, rfl, ⟨okS_line hz, rfl⟩, After.retd er a _ rfl⟩
  · rename_i l
    obtain ⟨p, xs, ex, hp, rl⟩ := n
    subst ex
    exact call_len pins s σ H _ vs Q I r ⟨_, xs.length, rfl, .inr ⟨xs, hp.sq, rfl⟩, by have := After.retd er a (.int (l.length : Nat)) rfl; rwa [RepL.length rl] at this⟩
  · rename_i l
    obtain ⟨p, xs, ex, hp, rl⟩ := n
    subst ex
    exact call_len pins s σ H _ vs Q I r ⟨_, xs.length, rfl, .inl ⟨xs, .inl (.inl hp), rfl⟩, by have := After.retd er a (.int (l.length : Nat)) rfl; rwa [RepL.length rl] at this⟩
  · rename_i t l
    have fin := After.retd er a (.int (l.length : Nat)) rfl
    obtain ⟨w', ew, rw'⟩ := vals1 r
    subst ew
    cases t with
    | false =>
      obtain ⟨p, kvs, ex, h, rl⟩ := n
      subst ex
      cases (show w' = Value.ref p from rw')
      rw [rl.length] at fin
      exact d_len I h fun tk s1 I1 => ⟨V.int ((kvs.length : Nat) : Int), H, I1, ⟨tk, rfl⟩, fin⟩
    | true =>
      obtain ⟨p, kvs, ex, h, rl⟩ := n
      subst ex
      cases (show w' = Value.ref p from rw')
      obtain ⟨z, hd, ys, rel, dd⟩ := dt_rd I.hok h
      have l2 : kvs.length = ys.length := Paired.length rel
      rw [rl.length, l2] at fin
      refine call_len_dictH hd dd (by rw [← l2]; rw [sizeLine_eq] at z; omega) ?_
      exact ⟨V.int ((ys.length : Nat) : Int), H, I.tok _, ⟨_, rfl⟩, fin⟩
  · rename_i l
    obtain ⟨p, ex, hp⟩ := n
    subst ex
    exact call_len pins s σ H _ vs Q I r ⟨_, (l.map V.int).length, rfl, .inl ⟨_, hp, rfl⟩, by have := After.retd er a (.int (l.length : Nat)) rfl; rwa [show l.length = (l.map V.int).length from (List.length_map _).symm] at this⟩
theorem over_ok {α : Type} {g : List D → Option α} {j : α → D} {vs : List Val} {us : List V} {Q : VK} (er : Rel X.K T κ H st) (rv : RepVals X.K T κ H vs us) (a : After X.K T W σ κ H (overL g j vs st) (PV X.K T Q)) :
    ∃ p l xs z, us = [.ref p] ∧ H p = some (.lst xs) ∧ RepL X.K T κ H l xs ∧ g l = some z ∧ ∀ u, Rep X.K T κ H (j z) u → Q u H := by
  unfold overL at a
  split at a
  · rename_i l
    obtain ⟨u, eu, p, xs, ex, hp, rl⟩ := one_val rv
    subst eu ex
    obtain ⟨z, ez, a⟩ := After.optd a
    exact ⟨p, l, xs, z, rfl, hp.2, rl, ez, fun u ru => After.retd er a u ru⟩
  · exact a.elim
theorem bools_rep : ∀ {l : List D} {bs : List Bool} {xs : List V}, bools l = some bs → RepL X.K T κ H l xs → xs = bs.map V.bl
  | [], _, _, h, r => by cases h; exact r
  | d :: l, bs, _, h, ⟨x, t, e, r1, r2⟩ => by
    subst e
    cases d <;> first | (cases h; done) | skip
    rename_i b
    have h : (bools l).map (b :: ·) = some bs := h
    cases q : bools l with
    | none => rw [q] at h; cases h
    | some cs =>
      rw [q] at h
      cases h
      rw [bools_rep q r2, show x = V.bl b from r1]
      rfl
theorem nums_rep : ∀ {l : List D} {bs : List Int} {xs : List V}, nums l = some bs → RepL X.K T κ H l xs → xs = bs.map V.int
  | [], _, _, h, r => by cases h; exact r
  | d :: l, bs, _, h, ⟨x, t, e, r1, r2⟩ => by
    subst e
    cases d <;> first | (cases h; done) | skip
    rename_i b
    have h : (nums l).map (b :: ·) = some bs := h
    cases q : nums l with
    | none => rw [q] at h; cases h
    | some cs =>
      rw [q] at h
      cases h
      rw [nums_rep q r2, show x = V.int b from r1]
      rfl
theorem c_all (hc : X.calm = true) : CallR X (.builtin "all") (rB X.K T bAll) := by
  intro pins s σ H us vs Q I r ⟨κ, st, ws, σ', W, er, rv, a⟩
  obtain ⟨p, l, xs, z, eu, hp, rl, ez, q⟩ := over_ok er rv a
  have e := bools_rep ez rl
  subst e
  exact cr_all hc pins s σ H us vs Q I r ⟨p, z, eu, .inl (.inl hp), q _ rfl⟩
theorem c_any (hc : X.calm = true) : CallR X (.builtin "any") (rB X.K T bAny) := by
  intro pins s σ H us vs Q I r ⟨κ, st, ws, σ', W, er, rv, a⟩
  obtain ⟨p, l, xs, z, eu, hp, rl, ez, q⟩ := over_ok er rv a
  have e := bools_rep ez rl
  subst e
  exact cr_any hc pins s σ H us vs Q I r ⟨p, z, eu, .inl (.inl hp), q _ rfl⟩
theorem c_sum (hc : X.calm = true) : CallR X (.builtin "sum") (rB X.K T bSum) := by
  intro pins s σ H us vs Q I r ⟨κ, st, ws, σ', W, er, rv, a⟩
  obtain ⟨p, l, xs, z, eu, hp, rl, ez, q⟩ := over_ok er rv a
  have e := nums_rep ez rl
  subst e
  exact cr_sum hc pins s σ H us vs Q I r ⟨p, z, eu, .inl (.inl hp), q _ rfl⟩
theorem c_abs : CallR X (.builtin "abs") (rB X.K T bAbs) := by
  intro pins s σ H us vs Q I r ⟨κ, st, ws, σ', W, er, rv, a⟩
  unfold bAbs at a
  split at a
  · rename_i i
    obtain ⟨u, eu, ru⟩ := one_val rv
    exact call_abs pins s σ H us vs Q I r ⟨i, by rw [eu, show u = V.int i from ru], After.retd er a _ rfl⟩
  · exact a.elim
theorem mkL_ok {keep : Bool} {l : List D} {xs : List V} {p : Addr} {Q : VK} (er : Rel X.K T κ H st) (rl : RepL X.K T κ H l xs) (hp : H p = none) (a : After X.K T W σ κ H (mkL keep l st) (PV X.K T Q)) : Q (.ref p) (upd H p (.lst xs)) := by
  cases keep with
  | false => exact After.done (Step.alloc hp) (er.alloc hp) a _ (rep_lst_new er hp rl)
  | true =>
    have sg : Step κ H (κ ++ [some p]) (upd H p (.lst xs)) := Step.grow er hp
    have a : After X.K T W σ κ H (.ok (.cell st.length) (st ++ [some (.lst l)])) (PV X.K T Q) := a
    refine a _ _ sg (er.grow hp ⟨xs, upd_same, RepL.step sg l xs rl⟩) _ ?_
    rw [← er.len]
    exact (Step.refl _ _).self
theorem c_list (hc : X.calm = true) (keep : Bool) : CallR X (.type "list") (rB X.K T (bList keep)) := by
  intro pins s σ H us vs Q I r ⟨κ, st, ws, σ', W, er, rv, a⟩
  obtain ⟨u, eu, d, n, a⟩ := one_ok er rv a
  subst eu
  cases d <;> first | exact a.elim | skip
  · rename_i z
    obtain ⟨hz, a⟩ := stuck_ifB a
    cases n
    obtain ⟨w', ew, tk0, et⟩ := vals1 r
    subst ew et
    refine PySem.call_list_str (I.ok.hd hc) z tk0 (hn := okS_line hz) fun h' tk acc c kp hS it => ?_
    have rl : RepL X.K T κ H (chars z) ((z.cps.toList).map fun c => V.str ⟨#[c]⟩) := by
      unfold chars
      generalize z.cps.toList = cl
      induction cl with
      | nil => exact rfl
      | cons c cl ih => exact ⟨_, _, rfl, rfl, ih⟩
    have hf := I.hok.fresh (Nat.le_refl s.heap.objs.size)
    refine ⟨.ref s.heap.objs.size, _, I.laid (t' := tk) (o := .lst (z.cps.toList.map fun c => V.str ⟨#[c]⟩)) kp (Nat.le_refl _) ⟨?_, acc.toList, c, ?_, by rw [Array.toArray_toList]; exact hS⟩, rfl, mkL_ok er rl hf a⟩
    · rw [List.length_map, Array.length_toList]
      exact okS_line hz
    · refine vals_of_at (by rw [List.length_map, Array.length_toList, Array.length_toList]; exact it.1.symm) fun j x u hx hu => ?_
      obtain ⟨c2, t2, h2, h3⟩ := it.2 j u (by rw [← Array.getElem?_toList]; exact hu)
      rw [List.getElem?_map, Array.getElem?_toList, h2] at hx
      cases hx
      exact ⟨t2, h3⟩
  · rename_i l
    obtain ⟨p, xs, ex, hp, rl⟩ := n
    subst ex
    exact call_list_of pins s σ H _ vs Q I r ⟨p, xs, rfl, .inr hp.sq, fun q hq => mkL_ok er rl hq a⟩
  · rename_i l
    obtain ⟨p, xs, ex, hp, rl⟩ := n
    subst ex
    exact call_list_of pins s σ H _ vs Q I r ⟨p, xs, rfl, .inl (.inl (.inl hp)), fun q hq => mkL_ok er rl hq a⟩
  · rename_i t l
    obtain ⟨p, es, ep, ks, ys, ex, hs, raw, hsz, hz, rk, _, vk, _⟩ := now_raw I er n
    subst ex
    obtain ⟨w', ew, rw'⟩ := vals1 r
    subst ew
    cases (show w' = Value.ref p from rw')
    have hl := RepL.length rk
    rw [List.length_map] at hl
    refine PySem.W.kdl_call (PySem.KdlSrc.rawDict hs) (I.ok.hd hc) raw (by omega) fun h' tk acc c kp hS it => ?_
    have hf := I.hok.fresh (Nat.le_refl s.heap.objs.size)
    have ea : acc.toList = es.toList.map (·.key) := by
      apply List.ext_getElem?
      intro j
      rw [List.getElem?_map, Array.getElem?_toList, Array.getElem?_toList]
      cases q : acc[j]? with
      | none =>
        have := Array.getElem?_eq_none_iff.mp q
        rw [Array.getElem?_eq_none (by have := it.1; omega)]
        rfl
      | some v =>
        obtain ⟨hi, ev⟩ := it.2 j v q
        rw [Array.getElem?_eq_getElem hi, ev]
        rfl
    refine ⟨.ref s.heap.objs.size, _, I.laid (t' := tk) (o := .lst ks) kp (Nat.le_refl _) ⟨by omega, acc.toList, c, by rw [ea]; exact vk, by rw [Array.toArray_toList]; exact hS⟩, rfl, mkL_ok er rk hf a⟩
  · rename_i l
    obtain ⟨p, ex, hp⟩ := n
    subst ex
    exact call_list_of pins s σ H _ vs Q I r ⟨p, _, rfl, .inl hp, fun q hq => mkL_ok er (RepL.ints l) hq a⟩
theorem c_tuple : CallR X (.type "tuple") (rB X.K T bTuple) := by
  intro pins s σ H us vs Q I r ⟨κ, st, ws, σ', W, er, rv, a⟩
  obtain ⟨u, eu, d, n, a⟩ := one_ok er rv a
  subst eu
  cases d <;> first | exact a.elim | skip
  · rename_i l
    obtain ⟨p, xs, ex, hp, rl⟩ := n
    subst ex
    exact call_tuple_of pins s σ H _ vs Q I r ⟨p, xs, rfl, .inr ⟨hp.sq, After.retd er a _ ⟨p, xs, rfl, hp, rl⟩⟩⟩
  · rename_i l
    obtain ⟨p, xs, ex, hp, rl⟩ := n
    subst ex
    exact call_tuple_of pins s σ H _ vs Q I r ⟨p, xs, rfl, .inl ⟨.inl (.inl hp), fun q hq => After.done (Step.alloc hq) (er.alloc hq) a _ (rep_tup_new er hq rl)⟩⟩
  · rename_i l
    obtain ⟨p, ex, hp⟩ := n
    subst ex
    exact call_tuple_of pins s σ H _ vs Q I r ⟨p, _, rfl, .inl ⟨hp, fun q hq => After.done (Step.alloc hq) (er.alloc hq) a _ (rep_tup_new er hq (RepL.ints l))⟩⟩
/-! ### isinstance -/
/-- what isinstance asks of an own class -/
structure OwnC (K : PySem.W.Frag) (C : Addr) : Prop where
  cl : Cls K C
  ha : PySem.W.findIn K (.ref C) "__class__" = some (some (.builtin "object.__class__"))
  hn : PySem.W.specialIn K (.builtin "object.__class__") "__get__" = some (some (.builtin "getset_descriptor.__get__"))
  htk : PySem.W.takesIn K (.builtin "object.__class__") = some true
  hm : PySem.W.mroIn K C (.type "object") = some true
def tyT : Tg → Option String
  | .non => some "NoneType"
  | .bl => some "bool"
  | .int => some "int"
  | .str => some "str"
  | .tup => some "tuple"
  | .lst => some "list"
  | .dic => some "dict"
  | .ins _ => none
structure IsQ (K : PySem.W.Frag) (T : Tb) (u : Value) (q : Tg → Option Bool) : Prop where
  ty : ∀ t n b, q t = some b → tyT t = some n → PySem.W.kitOne K (.type n) u = some b
  own : ∀ c b, q (.ins c) = some b → ∃ C ns, T.ct c = some (C, ns) ∧ OwnC K C ∧ PySem.W.kitOne K (.ref C) u = some b
/-- what a kind says of a value -/
def TgAt (K : PySem.W.Frag) (T : Tb) (H : Hp) : Tg → V → Prop
  | .non, x => x = .non
  | .bl, x => ∃ b, x = .bl b
  | .int, x => ∃ b, x = .int b
  | .str, x => ∃ b, x = .str b
  | .tup, x => ∃ a xs, x = .ref a ∧ SqT K H a xs
  | .lst, x => ∃ a xs, x = .ref a ∧ SqL K H a xs
  | .dic, x => ∃ a, x = .ref a ∧ ((∃ kvs, Rd H a (.dK kvs)) ∨ ∃ kvs, Rd H a (.dT kvs))
  | .ins c, x => ∃ a C ns dx fs, x = .ref a ∧ T.ct c = some (C, ns) ∧ H a = some (.ins C dx fs)
theorem tag_rep : ∀ {d : D} {x : V}, Rep X.K T κ H d x → TgAt X.K T H (tagD d) x
  | .non, _, h => h
  | .bl _, _, h => ⟨_, h⟩
  | .int _, _, h => ⟨_, h⟩
  | .str _, _, h => ⟨_, h⟩
  | .tup l, _, ⟨a, xs, e, t, r⟩ => ⟨a, xs, e, t.sq⟩
  | .lst l, _, ⟨a, xs, e, t, r⟩ => ⟨a, xs, e, t.sq⟩
  | .arr l, _, ⟨a, e, t⟩ => ⟨a, _, e, t.sq⟩
  | .dic false l, _, ⟨a, o, kvs, e, m, h, r⟩ => ⟨a, e, .inl ⟨kvs, .inr ⟨o, h⟩⟩⟩
  | .dic true l, _, ⟨a, o, kvs, e, m, h, r⟩ => ⟨a, e, .inr ⟨kvs, .inr ⟨o, h⟩⟩⟩
  | .ins c fs, _, ⟨a, C, dx, ns, vs, e, m, hc, h, hl, r⟩ => ⟨a, C, ns, dx, _, e, hc, h⟩
theorem After.tagd {β : Type} {v : Val} {x : V} {k : Tg → M β} {P : β → Sto → Kap → Hp → Prop} (e : Rel X.K T κ H st) (rv : RepVal X.K T κ H v x) (h : After X.K T W σ κ H (bnd (tagV v) k st) P) : ∃ t, TgAt X.K T H t x ∧ After X.K T W σ κ H (k t st) P := by
  cases v with
  | d y => exact ⟨tagD y, tag_rep rv, h⟩
  | cell i =>
    cases q : st[i]? with
    | none => rw [bnd_stk (by simp only [tagV, q])] at h; exact h.elim
    | some c =>
      cases c with
      | none => rw [bnd_stk (by simp only [tagV, q])] at h; exact h.elim
      | some c =>
        obtain ⟨a, ex, ha, ok⟩ := e.addr q rv
        cases c with
        | lst l =>
          rw [bnd_ok (a := Tg.lst) (s' := st) (by simp only [tagV, q])] at h
          obtain ⟨xs, h1, _⟩ := ok
          exact ⟨.lst, ⟨a, xs, ex, .inl (.inl h1)⟩, h⟩
        | dic t l =>
          rw [bnd_ok (a := Tg.dic) (s' := st) (by simp only [tagV, q])] at h
          cases t with
          | false => obtain ⟨xs, h1, _⟩ := ok; exact ⟨.dic, ⟨a, ex, .inl ⟨xs, .inl h1⟩⟩, h⟩
          | true => obtain ⟨xs, h1, _⟩ := ok; exact ⟨.dic, ⟨a, ex, .inr ⟨xs, .inl h1⟩⟩, h⟩
        | ins c fs =>
          rw [bnd_ok (a := Tg.ins c) (s' := st) (by simp only [tagV, q])] at h
          obtain ⟨C, dx, ns, gs, h1, h2, h3, h4⟩ := ok
          exact ⟨.ins c, ⟨a, C, ns, dx, gs, ex, h1, h3⟩, h⟩
theorem kit_tg {pins : List (Addr × Obj)} {s : Shared} {x : V} {u w : Value} {q : Tg → Option Bool} {t : Tg} {b : Bool} (I : Inv X pins σ H s) (rx : RelV x u) (hq : IsQ X.K T w q) (tg : TgAt X.K T H t x) (hb : q t = some b) :
    ∃ (ty : Value) (P : Heap → Prop), PySem.W.KitX X.K u ty P ∧ P s.heap ∧ u ≠ .builtin "__main__.__loader__#opaque" ∧ PySem.W.kitOne X.K ty w = some b := by
  have go : ∀ {ty : Value}, TyX X.K H x ty → PySem.W.kitOne X.K ty w = some b → ∃ (ty : Value) (P : Heap → Prop), PySem.W.KitX X.K u ty P ∧ P s.heap ∧ u ≠ .builtin "__main__.__loader__#opaque" ∧ PySem.W.kitOne X.K ty w = some b := fun {ty} h1 h2 => by
    obtain ⟨P, Z, p, hx⟩ := kit_of I rx h1
    exact ⟨ty, P, Z, p, hx, h2⟩
  cases t with
  | non => cases (show x = _ from tg); exact go (.base .non) (hq.ty _ _ _ hb rfl)
  | bl => obtain ⟨c, e⟩ := tg; subst e; exact go (.base (.bl _)) (hq.ty _ _ _ hb rfl)
  | int => obtain ⟨c, e⟩ := tg; subst e; exact go (.base (.int _)) (hq.ty _ _ _ hb rfl)
  | str => obtain ⟨c, e⟩ := tg; subst e; exact go (.base (.str _)) (hq.ty _ _ _ hb rfl)
  | tup =>
    obtain ⟨a, xs, e, h⟩ := tg
    subst e
    rcases h with (h | ⟨o, h⟩) | ⟨o, its, n, h1, h2, _⟩
    · exact go (.base (.tup h)) (hq.ty _ _ _ hb rfl)
    · exact go (.fTuple h) (hq.ty _ _ _ hb rfl)
    · exact go (.kTuple h1 h2) (hq.ty _ _ _ hb rfl)
  | lst =>
    obtain ⟨a, xs, e, h⟩ := tg
    subst e
    rcases h with (h | ⟨o, h⟩) | ⟨o, its, n, h1, h2, _⟩
    · exact go (.base (.lst h)) (hq.ty _ _ _ hb rfl)
    · exact go (.base (.frz h)) (hq.ty _ _ _ hb rfl)
    · exact go (.kList h1 h2) (hq.ty _ _ _ hb rfl)
  | dic =>
    obtain ⟨a, e, h⟩ := tg
    subst e
    have key : ∃ o, s.heap.get? a = some o ∧ o.cls = .type "dict" := by
      rcases h with ⟨kvs, h⟩ | ⟨kvs, h⟩
      · obtain ⟨_, _, vs, _, dd⟩ := dk_rd I.hok h
        exact dd.typeIs (s := s)
      · obtain ⟨_, _, vs, _, dd⟩ := dt_rd I.hok h
        exact dd.typeIs (s := s)
    cases (show u = Value.ref a from rx)
    exact ⟨_, _, PySem.W.kitx_dict, key, (fun z => nomatch z), hq.ty _ _ _ hb rfl⟩
  | ins c =>
    obtain ⟨a, C, ns, dx, fs, e, hc, h⟩ := tg
    subst e
    obtain ⟨C', ns', h1, h2, h3⟩ := hq.own c b hb
    rw [hc] at h1
    cases h1
    exact go (.base (.ins h h2.cl h2.ha h2.hn h2.htk h2.hm)) h3
theorem c_isi {c : V} {w : Value} {q : Tg → Option Bool} (hk : ClsV c w) (hq : IsQ X.K T w q) :
    CallR X (.builtin "isinstance") (fun us H Q => ∃ x, us = [x, c] ∧ ∃ κ st v σ W, Rel X.K T κ H st ∧ RepVal X.K T κ H v x ∧ After X.K T W σ κ H (bnd (tagV v) (fun t => bnd (optM (q t)) fun b => ret (.d (.bl b))) st) (PV X.K T Q)) := by
  intro pins s σ H us vs Q I r ⟨x, eu, κ, st, v, σ', W, er, rv, a⟩
  subst eu
  obtain ⟨u1, u2, rfl, r1, r2⟩ := vals2 r
  have e2 := hk.eq r2
  subst e2
  obtain ⟨t, tg, a⟩ := After.tagd er rv a
  obtain ⟨b, eb, a⟩ := After.optd a
  obtain ⟨ty, P, Z, p, hx, e⟩ := kit_tg I r1 hq tg eb
  exact PySem.W.kia_one Z I.kIn p e hx fun tk => ⟨.bl b, H, I.tok tk, rfl, After.retd er a _ rfl⟩
/-- isinstance(a, c) -/
theorem e_isi {ce : Expr} {c : V} {w : Value} {q : Tg → Option Bool} {p pos : Pos} (hk : ClsV c w) (hq : IsQ X.K T w q) (hg : Gl X "isinstance") (hm : X.mg "isinstance" = none) (hv : bootBuiltins "isinstance" = some (.builtin "isinstance")) (ha : PE X a (tE X.K T W f)) (hc : PE X ce (tC c))
    (h1 : starEach [a, ce] X.env = (false, eval a X.env) :: starEach [ce] X.env := by rfl) (h2 : starEach [ce] X.env = (false, eval ce X.env) :: starEach [] X.env := by rfl) (hpl : (backTo pos (starEach [ce] X.env)).any (·.1) = false := by rfl) :
    PE X (.Call (.Name "isinstance" p) [a, ce] [] pos) (tE X.K T W (dIsi q f)) :=
  pe_imp (pe_callB (c_isi (T := T) hk hq) hg hm hv (pa_cons ha (pa_cons hc pa_nil h2) h1) (by decide) (by decide) h1 hpl) fun σ H Q ⟨κ, st, env, cf, a⟩ =>
    ⟨κ, st, env, cf, a.bind.imp fun v st1 κ1 H1 s1 e1 a1 x rx => ⟨x, rfl, κ1, st1, v, σ, W, e1, rx, a1⟩⟩
end
end Fb
/-! FbM -/
/-! FbM: methods of lists and dicts, displays of dicts, stores. -/
namespace Fb
open PySem PySem.Spec PyProof.Rows L2
/-! ### plain -/
abbrev MK := Val → List Val → M Val
def isTg (p : Tg → Bool) (v : Val) : M Unit := bnd (tagV v) fun t => if p t = true then ret () else stk
def isL : Tg → Bool
  | .lst => true
  | _ => false
def dMth (k : MK) (fo : DE) (a : DA) : DE := fun e => bnd (fo e) fun v => bnd (isTg isL v) fun _ => bnd (a e) fun vs => k v vs
def wr (k : Nat) (c : Cel) (r : Val) : M Val := fun st => .ok r (st.set k (some c))
def celL (k : Nat) (f : List D → M Val) : M Val := fun st => match st[k]? with
  | some (some (.lst l)) => f l st
  | _ => .stuck
def mAppend : MK
  | .cell k, [u] => bnd (plain u) fun x => celL k fun l => cap l.length (wr k (.lst (l ++ [x])) (.d .non))
  | _, _ => stk
def mExtend : MK
  | .cell k, [u] => bnd (snap u) fun x => match x with
    | .lst m => celL k fun l => cap (l.length + m.length) (wr k (.lst (l ++ m)) (.d .non))
    | _ => stk
  | _, _ => stk
def mPop : MK
  | .cell k, [] => celL k fun l => bnd (optM l[l.length - 1]?) fun x => wr k (.lst l.dropLast) (.d x)
  | .cell k, [.d (.int i)] => celL k fun l => match seqIndex? i l.length with
    | some j => if -(2 ^ 63) ≤ i ∧ i < 2 ^ 63 then bnd (optM l[j]?) fun x => wr k (.lst (l.eraseIdx j)) (.d x) else stk
    | none => stk
  | _, _ => stk
def idxD (x : D) : List D → Option Nat
  | [] => none
  | y :: r => if eqD y x = true then some 0 else (idxD x r).map (· + 1)
def indexD : D → D → M Val
  | .lst l, x => if isData 8 x = true ∧ l.all (isData 7) = true then bnd (optM (idxD x l)) fun j => ret (.d (.int (j : Nat))) else stk
  | _, _ => stk
def mIndex : MK
  | v, [u] => bnd (snap v) fun l => bnd (snap u) fun x => indexD l x
  | _, _ => stk
def isDc : Tg → Bool
  | .dic => true
  | _ => false
def getD (d : Val) (k : Val) (z : Val) : M Val := bnd (snap d) fun x => bnd (snap k) fun y => match x with
  | .dic t l => if isKey t y = true then (match look y l with
    | some r => ret (.d r)
    | none => ret z) else stk
  | _ => stk
def dGet2 (fd fk fz : DE) : DE := fun e => bnd (fd e) fun d => bnd (isTg isDc d) fun _ => bnd (fk e) fun k => bnd (fz e) fun z => getD d k z
def putI : Val → Val → Val → M Val
  | .cell c, .d x, .d y => bnd (putC c x y) fun _ => ret (.d .non)
  | _, _, _ => stk
def sPut (fd fk fv : DE) : DS := fun e => bndE (bnd (fv e) fun v => bnd (fd e) fun d => bnd (fk e) fun k => putI d k v) e fun _ s => .nx e s
def celD (k : Nat) (f : List (D × D) → M Val) : M Val := fun st => match st[k]? with
  | some (some (.dic false l)) => f l st
  | _ => .stuck
def updI : MK
  | .cell c, [.d (.dic false m)] => celD c fun l => cap (l.length + m.length) (wr c (.dic false (putAll l m)) (.d .non))
  | _, _ => stk
def isCD : Val → M Unit
  | .cell c => bnd (tagV (.cell c)) fun t => if isDc t = true then ret () else stk
  | _ => stk
def dUpd (fd : DE) (a : DA) : DE := fun e => bnd (fd e) fun d => bnd (isCD d) fun _ => bnd (a e) fun us => updI d us
def evalP : List (DE × DE) → DEnv → M (List (D × D))
  | [], _ => ret []
  | p :: r, e => bnd (p.1 e) fun v => bnd (plain v) fun x => bnd (p.2 e) fun u => bnd (plain u) fun y => bnd (evalP r e) fun t => ret ((x, y) :: t)
def storeP (k : Nat) : List (D × D) → M Unit
  | [] => ret ()
  | p :: r => bnd (putC k p.1 p.2) fun _ => storeP k r
def dDisp (kt : Bool) (prs : List (DE × DE)) (keep : Bool) : DE := fun e => bnd (newCell (.dic kt [])) fun v => match v with
  | .cell k => bnd (evalP prs e) fun ps => bnd (storeP k ps) fun _ => if keep then ret (.cell k) else dropTo k
  | _ => stk
/-! ### methods of lists -/
def rM (K : PySem.W.Frag) (T : Tb) (k : MK) : V → List V → Hp → VK → Prop := fun x us H Q => ∃ κ st v vs σ W, Rel K T κ H st ∧ RepVal K T κ H v x ∧ RepVals K T κ H vs us ∧ After K T W σ κ H (k v vs st) (PV K T Q)
section
variable {X : Cx} {T : Tb} {W W' : WX} {a o e c : Expr} {es : List Expr} {f fo fk fz fv : DE} {da : DA} {k : MK} {σ : L2.St} {κ κ' : Kap} {H H' : Hp} {st : Sto} {α β : Type}
theorem After.bindB {K : PySem.W.Frag} {m : M α} {k : α → M β} {st : Sto} {P : β → Sto → Kap → Hp → Prop} (s : Step κ H κ' H') (h : After K T W σ κ H (bnd m k st) P) : After K T W σ κ' H' (m st) fun a st1 _ _ => After K T W σ κ H (k a st1) P := by
  unfold bnd at h
  cases q : m st with
  | ok a st1 => rw [q] at h; exact fun _ _ _ _ => h
  | exc x st1 => rw [q] at h; exact After.since (P := fun a st1 _ _ => After K T W σ κ H (k a st1) P) s h
  | stuck => rw [q] at h; exact h
theorem isTg_ok {p : Tg → Bool} {v : Val} {x : V} {k : Unit → M β} {P : β → Sto → Kap → Hp → Prop} (e : Rel X.K T κ H st) (rv : RepVal X.K T κ H v x) (h : After X.K T W σ κ H (bnd (isTg p v) k st) P) : ∃ t, TgAt X.K T H t x ∧ p t = true ∧ After X.K T W σ κ H (k () st) P := by
  unfold isTg at h
  rw [bnd_assoc] at h
  obtain ⟨t, tg, h⟩ := After.tagd e rv h
  obtain ⟨q, h⟩ := stuck_if h
  exact ⟨t, tg, q, h⟩
theorem tBM_of {σ : L2.St} {H : Hp} {Q : VK} (h : tE X.K T W (dMth k fo da) σ H Q) : tBM X.K "list" (rM X.K T k) (tE X.K T W fo) (tA X.K T W da) σ H Q := by
  obtain ⟨κ, st, env, c, a⟩ := h
  refine ⟨κ, st, env, c, a.bind.imp fun v st1 κ1 H1 s1 e1 a1 x rx => ?_⟩
  obtain ⟨t, tg, hp, a2⟩ := isTg_ok e1 rx a1
  cases t <;> first | cases hp; done | skip
  obtain ⟨p, xs, ex, hx⟩ := tg
  subst ex
  exact ⟨.inl ⟨rfl, xs, hx⟩, κ1, st1, env, c.step s1 e1, a2.bind.imp fun vs st2 κ2 H2 s2 e2 a3 us ru => ⟨κ2, st2, v, vs, σ, W, e2, RepVal.step s2 v _ rx, ru, a3⟩⟩
theorem e_mth {name : Str} {id : String} {apos cpos : Pos} (slot : Slot "list" name id) (hty : typeOf (.builtin id) = pure (.type "method_descriptor")) (hm : MtR X id (rM X.K T k)) (ho : PE X o (tE X.K T W fo)) (ha : PA X (e :: es) (tA X.K T W da))
    (hbase : attributeBase o name X.env (eval o X.env) = eval o X.env := by rfl)
    (hfew : ((backTo cpos (starEach (e :: es) X.env)).all (fun x => !x.1) && (backToKw cpos (keywordEach [] X.env)).all (fun x => x.1.isSome)
      && decide ((e :: es).length + ([] : List Keyword).length + (if ([] : List Keyword).isEmpty then 0 else 1) < 30)) = true := by rfl)
    (hline : (apos.endLine == cpos.line) = true := by rfl) (hs : starEach (e :: es) X.env = (false, eval e X.env) :: starEach es X.env := by rfl) (hplain : (backTo cpos (starEach es X.env)).any (·.1) = false := by rfl) :
    PE X (.Call (.Attribute o name apos) (e :: es) [] cpos) (tE X.K T W (dMth k fo da)) := pe_imp (pe_bm PySem.F.plainAttrs_list slot hty hm ho ha hbase hfew hline hs hplain) fun σ H Q h => tBM_of h
theorem e_mth0 {name : Str} {id : String} {apos cpos : Pos} (slot : Slot "list" name id) (hty : typeOf (.builtin id) = pure (.type "method_descriptor")) (hm : MtR X id (rM X.K T k)) (ho : PE X o (tE X.K T W fo))
    (hbase : attributeBase o name X.env (eval o X.env) = eval o X.env := by rfl) (hline : (apos.endLine == cpos.line) = true := by rfl) :
    PE X (.Call (.Attribute o name apos) [] [] cpos) (tE X.K T W (dMth k fo dNil)) := pe_imp (pe_bm0 PySem.F.plainAttrs_list slot hty hm ho hbase hline) fun σ H Q h => by
  have q := tBM_of h
  obtain ⟨κ, st, env, c, a⟩ := q
  refine ⟨κ, st, env, c, a.imp fun v st1 κ1 H1 s1 e1 a1 x rx => ?_⟩
  obtain ⟨h1, κ2, st2, env2, c2, h2⟩ := a1 x rx
  exact ⟨h1, h2 κ2 H1 (Step.refl _ _) c2.rel [] rfl⟩
theorem celL_ok {j : Nat} {g : List D → M Val} {x : V} {P : Val → Sto → Kap → Hp → Prop} (er : Rel X.K T κ H st) (rv : RepVal X.K T κ H (.cell j) x) (a : After X.K T W σ κ H (celL j g st) P) :
    ∃ p l xs, x = .ref p ∧ κ[j]? = some (some p) ∧ H p = some (.lst xs) ∧ RepL X.K T κ H l xs ∧ After X.K T W σ κ H (g l st) P := by
  unfold celL at a
  cases q : st[j]? with
  | none => rw [q] at a; exact a.elim
  | some o =>
    rw [q] at a
    cases o with
    | none => exact a.elim
    | some cl =>
      cases cl <;> first | exact a.elim | skip
      rename_i l
      obtain ⟨p, ex, hk, xs, h1, h2⟩ := er.addr q rv
      exact ⟨p, l, xs, ex, hk, h1, h2, a⟩
theorem wr_lst {j : Nat} {p : Addr} {m : List D} {ys : List V} {r : Val} {P : Val → Sto → Kap → Hp → Prop} (er : Rel X.K T κ H st) (hk : κ[j]? = some (some p)) (rl : RepL X.K T κ H m ys) (a : After X.K T W σ κ H (wr j (.lst m) r st) P) :
    P r (st.set j (some (.lst m))) κ (upd H p (.lst ys)) ∧ Step κ H κ (upd H p (.lst ys)) :=
  ⟨a κ _ (Step.write hk) (er.write hk ⟨ys, upd_same, RepL.step (Step.write hk) _ _ rl⟩), Step.write hk⟩
theorem m_append : MtR X "list.append" (rM X.K T mAppend) := by
  intro pins s σ H x xs v us Q I rx rxs ⟨κ, st, v0, vs, σ', W, er, rv, rvs, a⟩
  unfold mAppend at a
  split at a
  · rename_i j u
    obtain ⟨uu, eu, ru⟩ := one_val rvs
    obtain ⟨d, rd, a⟩ := After.plaind ru a
    obtain ⟨p, l, ys, ex, hk, hp, rl, a⟩ := celL_ok er rv a
    obtain ⟨hz, a⟩ := a.capd
    have q := wr_lst er hk (RepL.app (m := [d]) (ys := [uu]) rl ⟨uu, [], rfl, rd, rfl⟩) a
    exact mt_append pins s σ H x xs v us Q I rx rxs ⟨p, ys, uu, ex, eu, hp, by rw [← RepL.length rl, sizeLine_eq]; omega, q.1 _ rfl⟩
  · exact a.elim
theorem m_extend : MtR X "list.extend" (rM X.K T mExtend) := by
  intro pins s σ H x xs v us Q I rx rxs ⟨κ, st, v0, vs, σ', W, er, rv, rvs, a⟩
  unfold mExtend at a
  split at a
  · rename_i j u
    obtain ⟨uu, eu, ru⟩ := one_val rvs
    obtain ⟨d, n, a, _⟩ := After.snapd er ru a
    cases d <;> first | exact a.elim | skip
    rename_i m
    obtain ⟨b, zs, eb, hb, rm⟩ := n
    obtain ⟨p, l, ys, ex, hk, hp, rl, a⟩ := celL_ok er rv a
    obtain ⟨hz, a⟩ := a.capd
    have q := wr_lst er hk (RepL.app rl rm) a
    exact mt_extend pins s σ H x xs v us Q I rx rxs ⟨p, b, ys, zs, ex, by rw [eu, eb], hp, hb, by rw [← RepL.length rl, ← RepL.length rm, sizeLine_eq]; omega, q.1 _ rfl⟩
  · exact a.elim
theorem RepL.dropLast {K : PySem.W.Frag} : ∀ {l : List D} {xs : List V}, RepL K T κ H l xs → RepL K T κ H l.dropLast xs.dropLast
  | [], _, r => by cases (show _ = [] from r); exact rfl
  | [d], _, ⟨x, t, e, r1, r⟩ => by subst e; cases (show _ = [] from r); exact rfl
  | d :: d2 :: l, _, ⟨x, t, e, r1, y, t2, e2, r2⟩ => by
    subst e e2
    exact ⟨x, _, rfl, r1, RepL.dropLast (l := d2 :: l) ⟨y, t2, rfl, r2⟩⟩
theorem RepL.eraseIdx {K : PySem.W.Frag} : ∀ {l : List D} {xs : List V} (j : Nat), RepL K T κ H l xs → RepL K T κ H (l.eraseIdx j) (xs.eraseIdx j)
  | [], _, j, r => by cases (show _ = [] from r); exact rfl
  | d :: l, _, 0, ⟨x, t, e, r1, r⟩ => by subst e; exact r
  | d :: l, _, j + 1, ⟨x, t, e, r1, r⟩ => by subst e; exact ⟨x, _, rfl, r1, RepL.eraseIdx j r⟩
theorem m_pop : MtR X "list.pop" (rM X.K T mPop) := by
  intro pins s σ H x xs v us Q I rx rxs ⟨κ, st, v0, vs, σ', W, er, rv, rvs, a⟩
  unfold mPop at a
  split at a
  · rename_i j
    obtain ⟨p, l, ys, ex, hk, hp, rl, a⟩ := celL_ok er rv a
    obtain ⟨d, ed, a⟩ := After.optd a
    obtain ⟨y, ey, ry⟩ := rl.get ed
    have q := wr_lst er hk (RepL.dropLast rl) a
    exact mt_pop pins s σ H x xs v us Q I rx rxs ⟨p, ys, y, ex, rvs, hp, by rw [← RepL.length rl]; exact ey, q.1 _ (Rep.step q.2 _ _ ry)⟩
  · rename_i j i
    obtain ⟨uu, eu, ru⟩ := one_val rvs
    obtain ⟨p, l, ys, ex, hk, hp, rl, a⟩ := celL_ok er rv a
    cases z : seqIndex? i l.length with
    | none => rw [z] at a; exact a.elim
    | some n =>
      rw [z] at a
      obtain ⟨hi, a⟩ := stuck_ifB a
      obtain ⟨d, ed, a⟩ := After.optd a
      obtain ⟨y, ey, ry⟩ := rl.get ed
      have q := wr_lst er hk (RepL.eraseIdx n rl) a
      exact mt_popAt pins s σ H x xs v us Q I rx rxs ⟨p, ys, i, n, y, ex, by rw [eu, show uu = V.int i from ru], hp, hi.1, hi.2, by rw [← RepL.length rl]; exact z, ey, q.1 _ (Rep.step q.2 _ _ ry)⟩
  · exact a.elim
theorem idx_py {x : D} (hx : isData 8 x = true) : ∀ {l : List D} {j : Nat}, (∀ d ∈ l, isData 7 d = true) → idxD x l = some j → ∃ z, (toPys l)[j]? = some z ∧ PyData.eqv z (toPy x) = true ∧ ∀ (m : Nat) (z' : PyData), m < j → (toPys l)[m]? = some z' → PyData.eqv z' (toPy x) = false
  | [], _, _, h => nomatch h
  | y :: l, j, hl, h => by
    have ey := eqv_py y x 7 8 (hl y (List.mem_cons_self ..)) hx
    unfold idxD at h
    by_cases q : eqD y x = true
    · rw [if_pos q] at h
      cases h
      exact ⟨toPy y, rfl, ey.trans q, fun m _ hm => absurd hm (Nat.not_lt_zero m)⟩
    · rw [if_neg q] at h
      cases z : idxD x l with
      | none => rw [z] at h; cases h
      | some i =>
        rw [z] at h
        cases h
        obtain ⟨w, h1, h2, h3⟩ := idx_py hx (fun d hd => hl d (List.mem_cons_of_mem _ hd)) z
        refine ⟨w, h1, h2, fun m z' hm hz => ?_⟩
        cases m with
        | zero =>
          cases (show some (toPy y) = some z' from hz)
          rw [ey]
          exact Bool.eq_false_iff.mpr q
        | succ m => exact h3 m z' (Nat.lt_of_succ_lt_succ hm) hz
theorem m_index (hu : X.A.units + 65 < cLine) : MtR X "list.index" (rM X.K T mIndex) := by
  intro pins s σ H x xs v us Q I rx rxs ⟨κ, st, v0, vs, σ', W, er, rv, rvs, a⟩
  unfold mIndex at a
  split at a
  · rename_i u
    obtain ⟨uu, eu, ru⟩ := one_val rvs
    obtain ⟨d, n, a, _⟩ := After.snapd er rv a
    obtain ⟨w, n2, a, _⟩ := After.snapd er ru a
    obtain ⟨l, el⟩ : ∃ l, d = .lst l := by
      cases d <;> first | exact a.elim | exact ⟨_, rfl⟩
    subst el
    obtain ⟨hd, a⟩ := stuck_ifB a
    obtain ⟨j, ej, a⟩ := After.optd a
    have hl : ∀ d ∈ l, isData 7 d = true := fun d hm => List.all_eq_true.mp hd.2 d hm
    obtain ⟨z, h1, h2, h3⟩ := idx_py hd.1 hl ej
    have hL : isData 8 (.lst l) = true := hd.2
    obtain ⟨p, ys, ex, hp, rl⟩ := id n
    subst ex
    refine mt_indexD hu pins s σ H _ xs v us Q I rx rxs ⟨p, uu, toPy w, toPys l, j, z, rfl, eu, now_dp (d := .lst l) hL n, now_dp hd.1 n2, shaped_py (d := .lst l) hL (by decide), shaped_py hd.1 (by decide), h1, h2, h3, After.retd er a _ rfl⟩
  · exact a.elim
/-! ### dicts -/
theorem look_opt {l : List (D × D)} {y : D} {o : Option V} (h : RepOpt X.K T κ H (look y l) o) : (∃ r x, look y l = some r ∧ o = some x ∧ Rep X.K T κ H r x) ∨ (look y l = none ∧ o = none) := by
  cases q : look y l with
  | none => rw [q] at h; cases o <;> first | exact .inr ⟨rfl, rfl⟩ | exact h.elim
  | some r => rw [q] at h; cases o <;> first | exact h.elim | exact .inl ⟨r, _, rfl, rfl, h⟩
theorem e_get2 {d i z : Expr} {fd : DE} {apos cpos : Pos} (hu : X.A.units + 1 < cLine) (hd : PE X d (tE X.K T W fd)) (hi : PE X i (tE X.K T W fk)) (hz : PE X z (tE X.K T W fz)) (m : M2 X d "get" apos i z cpos) : PE X (.Call (.Attribute d "get" apos) [i, z] [] cpos) (tE X.K T W (dGet2 fd fk fz)) :=
  pe_imp (pe_dget2 hu hd hi hz m) fun σ H Q ⟨κ, st, env, c, a⟩ => ⟨κ, st, env, c, a.bind.imp fun v st1 κ1 H1 s1 e1 a1 x rx => by
    obtain ⟨t, tg, hp, a2⟩ := isTg_ok e1 rx a1
    cases t <;> first | cases hp; done | skip
    obtain ⟨p, ex, hx⟩ := tg
    subst ex
    refine ⟨p, rfl, hx, κ1, st1, env, c.step s1 e1, a2.bind.imp fun k st2 κ2 H2 s2 e2 a3 y ry => ⟨κ2, st2, env, (c.step s1 e1).step s2 e2, a3.bind.imp fun w st3 κ3 H3 s3 e3 a4 zz rz => ?_⟩⟩
    obtain ⟨dd, n, a5, _⟩ := After.snapd e3 (RepVal.step s3 _ _ (RepVal.step s2 _ _ rx)) a4
    obtain ⟨kk, n2, a6, _⟩ := After.snapd e3 (RepVal.step s3 _ _ ry) a5
    obtain ⟨t, l, el⟩ : ∃ t l, dd = .dic t l := by
      cases dd <;> first | exact a6.elim | exact ⟨_, _, rfl⟩
    subst el
    obtain ⟨hk, a6⟩ := stuck_ifB a6
    obtain ⟨p2, o, ep, g, ro⟩ := now_get n n2 hk
    cases ep
    refine ⟨o, g, ?_⟩
    rcases look_opt ro with ⟨r, xr, e4, e5, rr⟩ | ⟨e4, e5⟩
    · rw [e4] at a6
      rw [e5]
      exact After.retd e3 a6 xr rr
    · rw [e4] at a6
      rw [e5]
      exact After.retd e3 a6 zz rz⟩
theorem putC_ok {K : PySem.W.Frag} {j : Nat} {p : Addr} {x y : D} {u w : V} {k : Unit → M β} {P : β → Sto → Kap → Hp → Prop} {κ1 : Kap} {H1 : Hp} (er : Rel K T κ H st) (rv : RepVal K T κ H (.cell j) (.ref p)) (rx : Rep K T κ H x u) (ry : Rep K T κ H y w) (a : After K T W σ κ1 H1 (bnd (putC j x y) k st) P) :
    ∃ H', DPut H p u w H' ∧ ∃ c, Step κ H κ H' ∧ Rel K T κ H' (st.set j (some c)) ∧ After K T W σ κ1 H1 (k () (st.set j (some c))) P := by
  cases q : st[j]? with
  | none => rw [bnd_stk (by unfold putC; rw [q])] at a; exact a.elim
  | some o =>
    cases o with
    | none => rw [bnd_stk (by unfold putC; rw [q])] at a; exact a.elim
    | some cl =>
      cases cl with
      | ins _ _ => rw [bnd_stk (by unfold putC; rw [q])] at a; exact a.elim
      | lst _ => rw [bnd_stk (by unfold putC; rw [q])] at a; exact a.elim
      | dic t l =>
        by_cases hl : isKey t x = true ∧ l.length < 1000000
        · rw [bnd_ok (a := ()) (s' := st.set j (some (.dic t (Fb.put x y l)))) (by unfold putC; rw [q]; exact if_pos hl)] at a
          obtain ⟨ad, ex, hk, ok⟩ := er.addr q rv
          cases ex
          obtain ⟨o, hp, hc⟩ := put_cell (List.mem_of_getElem? hk) ok hl.1 hl.2 rx ry
          exact ⟨_, hp, _, Step.write hk, er.write hk hc, a⟩
        · rw [bnd_stk (by unfold putC; rw [q]; exact if_neg hl)] at a; exact a.elim
theorem s_put {d i value : Expr} {fd : DE} {pos tpos : Pos} (hu : X.A.units + 1 < cLine) (hd : PE X d (tE X.K T W fd)) (hi : PE X i (tE X.K T W fk)) (hv : PE X value (tE X.K T W fv)) (hs : swapsWith value (some (.Subscript d i tpos)) pos.line X.env = pure false := by rfl) :
    PS X (.Assign [.Subscript d i tpos] value pos) (tS X.K T W (sPut fd fk fv)) := ps_imp (ps_dput hu hd hi hv hs) fun D σ H ⟨κ, st, env, c, a⟩ => by
  have a1 := AftS.bndd c a
  refine ⟨κ, st, env, c, a1.bind.imp fun v st1 κ1 H1 s1 e1 a2 w rw' => ⟨κ1, st1, env, c.step s1 e1, a2.bind.imp fun dv st2 κ2 H2 s2 e2 a3 x rx => ⟨κ2, st2, env, (c.step s1 e1).step s2 e2, a3.bind.imp fun kv st3 κ3 H3 s3 e3 a4 y ry => ?_⟩⟩⟩
  unfold putI at a4
  split at a4
  · rename_i cc xk yv
    cases c2 : (show RepVal X.K T κ2 H2 (.cell cc) x from rx)
    obtain ⟨p, ex⟩ : ∃ p, x = .ref p := by
      cases q : st3[cc]? with
      | none => rw [bnd_stk (by unfold putC; rw [q])] at a4; exact a4.elim
      | some o =>
        cases o with
        | none => rw [bnd_stk (by unfold putC; rw [q])] at a4; exact a4.elim
        | some cl => obtain ⟨p, ex, _⟩ := e3.addr q (RepVal.step s3 _ _ rx); exact ⟨p, ex⟩
    subst ex
    obtain ⟨H4, hp, c4, s4, e4, a5⟩ := putC_ok e3 (RepVal.step s3 _ _ rx) (u := y) (w := w) ry (Rep.step s3 _ _ (Rep.step s2 _ _ rw')) a4
    have a6 : AftS X.K T W κ3 H4 (.nx env (st3.set cc (some c4))) D := a5 κ3 H4 s4 e4
    exact ⟨p, H4, rfl, hp, AftS.nxd ⟨e4, ((((c.env.step s1).step s2).step s3).step s4)⟩ a6⟩
  · exact a4.elim
theorem putAll_rep {K : PySem.W.Frag} : ∀ {m l : List (D × D)} {kvs more : List (L2.Key × V)}, RepPK K T κ H l kvs → RepPK K T κ H m more → RepPK K T κ H (putAll l m) (mergeK kvs more)
  | [], _, _, _, r, q => by cases (show _ = [] from q); exact r
  | (k, d) :: m, l, kvs, _, r, ⟨kk, x, t, e, hk, h1, h2⟩ => by
    subst e
    have := putAll_rep (m := m) (l := Fb.put k d l) (kvs := putK kvs kk x) (more := t) (r.put hk h1) h2
    exact this
theorem m_update : MtR X "dict.update" (rM X.K T updI) := by
  intro pins s σ H x xs v us Q I rx rxs ⟨κ, st, v0, vs, σ', W, er, rv, rvs, a⟩
  unfold updI at a
  split at a
  · rename_i j m
    obtain ⟨uu, eu, ru⟩ := one_val rvs
    obtain ⟨b, ob, more, eb, nb, hb, rm⟩ := (show Rep X.K T κ H (.dic false m) uu from ru)
    unfold celD at a
    cases q : st[j]? with
    | none => rw [q] at a; exact a.elim
    | some o =>
      rw [q] at a
      cases o with
      | none => exact a.elim
      | some cl =>
        obtain ⟨p, ex, hk, ok⟩ := er.addr q rv
        obtain ⟨l, el⟩ : ∃ l, cl = .dic false l := by
          cases cl with
          | dic t l => cases t <;> first | exact ⟨_, rfl⟩ | exact a.elim
          | lst _ => exact a.elim
          | ins _ _ => exact a.elim
        subst el
        obtain ⟨kvs, hp, rl⟩ := ok
        obtain ⟨hz, a⟩ := After.capd (m := wr j (.dic false (putAll l m)) (.d .non)) a
        have hne : p ≠ b := fun z => by rw [z, hb] at hp; cases hp
        subst ex eu eb
        obtain ⟨w1, ew, rw1⟩ := vals1 rxs
        subst ew
        cases (show w1 = Value.ref b from rw1)
        cases (show v = Value.ref p from rx)
        obtain ⟨z1, hd1, vs1, rel1, dd1⟩ := dk_of I.hok hp
        obtain ⟨z2, hd2, vs2, rel2, dd2⟩ := dk_rd I.hok (.inr ⟨ob, hb⟩)
        have l1 := rl.length
        have l2 := rm.length
        have hml : (mergeK kvs more).length ≤ sizeLine := by have := length_mergeK more kvs; rw [sizeLine_eq]; omega
        have sw : Step κ H κ (upd H p (.dK (mergeK kvs more))) := Step.write hk
        have fin := a κ _ sw (er.write hk ⟨_, upd_same, RepPK.step sw _ _ (putAll_rep rl rm)⟩) .non rfl
        refine call_meetsIn PySem.F.slot_dict_update dd1.typeIs PySem.F.entry_dict_update (PySem.F.args_dict_update_2 _ _) (meets_dict_update (mixKind X.prog X.w) p b hne hd2)
          ⟨vs1, vs2, dd1, dd2, by rw [← rel1.length, ← rel2.length, sizeLine_eq]; omega, fun h' dd' _ hs => ⟨.non, _, ?_, rfl, fin⟩⟩
        have he : ∃ q, h'.get? p = some q := let ⟨q, _, _, hq, _⟩ := dd'; ⟨q, hq⟩
        exact d_write (t' := s.toks) I (by rw [hp]; trivial) hs he (dk_new hml hd1 (rel2.merge rel1) dd')
  · exact a.elim
theorem e_upd {d : Expr} {fd : DE} {apos cpos : Pos} (ho : PE X d (tE X.K T W fd)) (ha : PA X (e :: es) (tA X.K T W da)) (hbase : attributeBase d "update" X.env (eval d X.env) = eval d X.env := by rfl)
    (hfew : ((backTo cpos (starEach (e :: es) X.env)).all (fun x => !x.1) && (backToKw cpos (keywordEach [] X.env)).all (fun x => x.1.isSome)
      && decide ((e :: es).length + ([] : List Keyword).length + (if ([] : List Keyword).isEmpty then 0 else 1) < 30)) = true := by rfl)
    (hline : (apos.endLine == cpos.line) = true := by rfl) (hs : starEach (e :: es) X.env = (false, eval e X.env) :: starEach es X.env := by rfl) (hplain : (backTo cpos (starEach es X.env)).any (·.1) = false := by rfl) :
    PE X (.Call (.Attribute d "update" apos) (e :: es) [] cpos) (tE X.K T W (dUpd fd da)) := pe_imp (pe_bm PySem.F.plainAttrs_dict PySem.F.slot_dict_update PySem.F.type_dict_update m_update ho ha hbase hfew hline hs hplain) fun σ H Q ⟨κ, st, env, c, a⟩ =>
  ⟨κ, st, env, c, a.bind.imp fun v st1 κ1 H1 s1 e1 a1 x rx => by
    cases v with
    | d _ => exact a1.elim
    | cell j =>
      have a1 : After X.K T W σ κ1 H1 (bnd (bnd (tagV (.cell j)) fun t => if isDc t = true then ret () else stk) (fun _ => bnd (da env) fun us => updI (.cell j) us) st1) (PV X.K T Q) := a1
      obtain ⟨hd, a2⟩ : (∃ p, x = .ref p ∧ ((∃ kvs, H1 p = some (.dK kvs)) ∨ ∃ kvs, H1 p = some (.dT kvs))) ∧ After X.K T W σ κ1 H1 (bnd (da env) (fun us => updI (.cell j) us) st1) (PV X.K T Q) := by
        rw [bnd_assoc] at a1
        cases q : st1[j]? with
        | none => rw [bnd_stk (by simp only [tagV, q])] at a1; exact a1.elim
        | some o =>
          cases o with
          | none => rw [bnd_stk (by simp only [tagV, q])] at a1; exact a1.elim
          | some cl =>
            obtain ⟨p, ex, hk, ok⟩ := e1.addr q rx
            cases cl with
            | lst l => rw [bnd_ok (a := Tg.lst) (s' := st1) (by simp only [tagV, q])] at a1; exact a1.elim
            | ins c' l => rw [bnd_ok (a := Tg.ins c') (s' := st1) (by simp only [tagV, q])] at a1; exact a1.elim
            | dic t l =>
              rw [bnd_ok (a := Tg.dic) (s' := st1) (by simp only [tagV, q])] at a1
              cases t with
              | false => obtain ⟨kvs, h1, _⟩ := ok; exact ⟨⟨p, ex, .inl ⟨kvs, h1⟩⟩, a1⟩
              | true => obtain ⟨kvs, h1, _⟩ := ok; exact ⟨⟨p, ex, .inr ⟨kvs, h1⟩⟩, a1⟩
      obtain ⟨p, ex, hd⟩ := hd
      subst ex
      exact ⟨.inr (.inr (.inl ⟨rfl, hd⟩)), κ1, st1, env, c.step s1 e1, a2.bind.imp fun vs st2 κ2 H2 s2 e2 a3 us ru => ⟨κ2, st2, .cell j, vs, σ, W, e2, RepVal.step s2 (.cell j) _ rx, ru, a3⟩⟩⟩
/-! ### displays -/
abbrev tPr (K : PySem.W.Frag) (T : Tb) (W : WX) (prs : List (DE × DE)) : List (TE × TE) := prs.map fun p => (tE K T W p.1, tE K T W p.2)
def RepPs (K : PySem.W.Frag) (T : Tb) (κ : Kap) (H : Hp) : List (D × D) → List (V × V) → Prop
  | [], ps => ps = []
  | (x, y) :: r, ps => ∃ u w t, ps = (u, w) :: t ∧ Rep K T κ H x u ∧ Rep K T κ H y w ∧ RepPs K T κ H r t
theorem RepPs.step {K : PySem.W.Frag} (s : Step κ H κ' H') : ∀ {l : List (D × D)} {ps : List (V × V)}, RepPs K T κ H l ps → RepPs K T κ' H' l ps
  | [], _, h => h
  | (x, y) :: r, _, ⟨u, w, t, e, h1, h2, h3⟩ => ⟨u, w, t, e, Rep.step s _ _ h1, Rep.step s _ _ h2, RepPs.step s h3⟩
theorem evalP_ok {K : PySem.W.Frag} {κ1 : Kap} {H1 : Hp} {P : β → Sto → Kap → Hp → Prop} {R : List (V × V) → Hp → Prop} {env : DEnv} : ∀ {prs : List (DE × DE)} {k : List (D × D) → M β} {κ : Kap} {H : Hp} {st : Sto}, Step κ1 H1 κ H → Cf K T σ κ H st env → After K T W σ κ1 H1 (bnd (evalP prs env) k st) P →
    (∀ ds ps κ' H' st', Step κ H κ' H' → Rel K T κ' H' st' → RepPs K T κ' H' ds ps → After K T W σ κ1 H1 (k ds st') P → R ps H') → tPairs (tPr K T W prs) σ H R
  | [], k, κ, H, st, s0, c, a, hR => hR [] [] κ H st (Step.refl _ _) c.rel rfl a
  | p :: prs, k, κ, H, st, s0, c, a, hR => by
    have a : After K T W σ κ1 H1 (bnd (bnd (p.1 env) fun v => bnd (plain v) fun x => bnd (p.2 env) fun u => bnd (plain u) fun y => bnd (evalP prs env) fun t => ret ((x, y) :: t)) k st) P := a
    rw [bnd_assoc] at a
    refine ⟨κ, st, env, c, (After.bindB s0 a).imp fun v st2 κ2 H2 s2 e2 a2 u ru => ?_⟩
    rw [bnd_assoc] at a2
    obtain ⟨x, ex, a3⟩ := plainB a2
    subst ex
    rw [bnd_assoc] at a3
    refine ⟨κ2, st2, env, c.step s2 e2, (After.bindB (s0.trans s2) a3).imp fun v st3 κ3 H3 s3 e3 a4 w rw' => ?_⟩
    rw [bnd_assoc] at a4
    obtain ⟨y, ey, a5⟩ := plainB a4
    subst ey
    rw [bnd_assoc] at a5
    refine evalP_ok ((s0.trans s2).trans s3) ((c.step s2 e2).step s3 e3) a5 fun ds ps κ' H' st' s4 e4 r a6 => ?_
    exact hR ((x, y) :: ds) ((u, w) :: ps) κ' H' st' ((s2.trans s3).trans s4) e4 ⟨u, w, ps, rfl, Rep.step s4 _ _ (Rep.step s3 _ _ ru), Rep.step s4 _ _ rw', r⟩ a6
theorem storeP_ok (hu : X.A.units + 1 < cLine) {pins : List (Addr × Obj)} {κ1 : Kap} {H1 : Hp} {Da : Addr} {j : Nat} {P : β → Sto → Kap → Hp → Prop} {R : Hp → Prop} {k : Unit → M β} : ∀ {ds : List (D × D)} {ps : List (V × V)} {ws : List (Value × Value)} {s : Shared} {κ : Kap} {H : Hp} {st : Sto},
    Inv X pins σ H s → Rel X.K T κ H st → RepVal X.K T κ H (.cell j) (.ref Da) → RepPs X.K T κ H ds ps → VV ps ws → After X.K T W σ κ1 H1 (bnd (storeP j ds) k st) P →
    (∀ κ' H' st', Step κ H κ' H' → Rel X.K T κ' H' st' → After X.K T W σ κ1 H1 (k () st') P → R H') →
    wpAny (model X.prog X.w) X.A (storeAll Da ws) (fun _ s' => ∃ H', Inv X pins σ H' s' ∧ R H') X.xe s
  | [], _, ws, s, κ, H, st, I, er, rv, r, rel, a, hR => by
    cases (show _ = [] from r)
    cases rel
    exact wpAny_pure ⟨H, I, hR κ H st (Step.refl _ _) er a⟩
  | (x, y) :: ds, _, ws, s, κ, H, st, I, er, rv, ⟨u, w, t, e, h1, h2, h3⟩, rel, a, hR => by
    subst e
    cases rel with
    | @cons p q ps qs hd tl =>
      have a : After X.K T W σ κ1 H1 (bnd (bnd (putC j x y) fun _ => storeP j ds) k st) P := a
      rw [bnd_assoc] at a
      obtain ⟨H', hp, c, s1, e1, a1⟩ := putC_ok er rv h1 h2 a
      show wpAny _ _ (forIn (q :: qs) _ _) _ _ _
      rw [List.forIn_cons]
      refine wpAny_bind (wpAny_bind (dictSet_put hu I hp hd.1 hd.2 fun s2 I2 => wpAny_pure ?_))
      exact storeP_ok hu I2 e1 (RepVal.step s1 (.cell j) _ rv) (RepPs.step s1 h3) tl a1 fun κ' H2 st' s3 => hR κ' H2 st' (s1.trans s3)
theorem e_disp {kt keep : Bool} {prs : List (DE × DE)} {pos : Pos} {keys : List (Option Expr)} {values : List Expr} (hu : X.A.units + 1 < cLine) (h : PPs X pos keys values (tPr X.K T W prs)) (hall : keys.all (·.isSome) = true) (hl : keys.length = values.length) (h0 : keys ≠ []) (h15 : keys.length ≤ 15) :
    PE X (.Dict keys values pos) (tE X.K T W (dDisp kt prs keep)) := by
  have base : PE X (.Dict keys values pos) (fun σ H Q => ∀ D, H D = none → tPairs (tPr X.K T W prs) σ (upd H D (nul kt)) fun ps H2 => ∀ pins s ws, Inv X pins σ H2 s → VV ps ws → wpAny (model X.prog X.w) X.A (storeAll D ws) (fun _ s' => ∃ H', Inv X pins σ H' s' ∧ Q (.ref D) H') X.xe s) := by
    constructor
    intro pins s σ H Q I q
    have I1 := I.laid (a := s.heap.objs.size) (o := nul kt) (h' := s.heap.push { cls := .type "dict", data := .dict #[] }) (t' := s.toks) (fun _ _ q => Heap.get?_push_of_some _ q) (Nat.le_refl _) (nul_ok kt I.big)
    refine wpAny_Dict_any hall hl h0 h15 (thn (h.run pins _ σ _ _ I1 (q _ (I.hok.fresh (Nat.le_refl _)))) ?_)
    rintro ws s2 ⟨ps, H2, I2, rel, q2⟩
    exact thn (q2 pins s2 ws I2 rel) fun _ s3 ⟨H3, I3, q3⟩ => ⟨V.ref s.heap.objs.size, H3, I3, rfl, q3⟩
  refine pe_imp (pe_locked base) fun σ H Q ⟨κ, st, env, c, a⟩ D hD => ?_
  have sg : Step κ H (κ ++ [some D]) (upd H D (nul kt)) := Step.grow c.rel hD
  have rg := c.rel.grow (D := D) (o := nul kt) (c := .dic kt []) hD (by cases kt <;> exact ⟨[], upd_same, rfl⟩)
  have a : After X.K T W σ κ H (bnd (evalP prs env) (fun ps => bnd (storeP st.length ps) fun _ => if keep then ret (.cell st.length) else dropTo st.length) (st ++ [some (.dic kt [])])) (PV X.K T Q) := a
  rw [← c.rel.len] at a
  refine evalP_ok sg ⟨rg, c.env.step sg⟩ a fun ds ps κ' H' st' s1 e1 r a1 pins s ws I rel => ?_
  refine storeP_ok hu (R := fun H2 => OrL Q (.ref D) H2) I e1 (Step.self s1) r rel a1 fun κ2 H2 st2 s2 e2 a2 => ?_
  exact OrL.of (fin_ok hD (s1.trans s2) ((sg.trans s1).trans s2) e2 a2)
end
end Fb
/-! FbN -/
/-! FbN: assignments of several names, counters, attributes, own methods, stars, try. -/
namespace Fb
open PySem PySem.Spec PyProof.Rows L2
/-! ### plain -/
def sInc (i : Nat) (n : Int) : DS := fun e => bndE (bnd (dVar i e) plain) e fun x s => match x with
  | .int j => .nx (e.set i (some (.d (.int (j + n))))) s
  | _ => .stuck
def putN (i : Nat) (v : Val) : List (Nat × Val) → List (Nat × Val)
  | [] => [(i, v)]
  | (j, u) :: r => if j = i then (j, v) :: r else (j, u) :: putN i v r
def attrI (fld : Nat → Option Nat) : Val → Val → M Val
  | .cell k, v => fun st => match st[k]? with
    | some (some (.ins c fs)) => (match fld c with
      | some i => if fs.length < 1000 then .ok (.d .non) (st.set k (some (.ins c (putN i v fs)))) else .stuck
      | none => .stuck)
    | _ => .stuck
  | _, _ => stk
def sAttr (fld : Nat → Option Nat) (fo fv : DE) : DS := fun e => bndE (bnd (fv e) fun v => bnd (fo e) fun o => attrI fld o v) e fun _ s => .nx e s
def clsV (v : Val) : M Nat := bnd (tagV v) fun t => match t with
  | .ins c => ret c
  | _ => stk
def dOwn (G : Nat → Option Gn) (fo : DE) (a : DA) : DE := fun e => bnd (fo e) fun v => bnd (clsV v) fun c => bnd (optM (G c)) fun g => bnd (a e) fun vs => g (v :: vs) []
/-- an attribute that a property's getter gives -/
def dProp (G : Nat → Option Gn) (fo : DE) : DE := dOwn G fo dNil
def sTry0 (p : DS) : DS := fun e s => match p e s with
  | .exc _ _ _ => .stuck
  | r => r
def valsL (keep : Bool) : D → M Val
  | .dic _ l => mkL keep (l.map (·.2))
  | _ => stk
/-- list(d.values()) -/
def dVals (keep : Bool) (f : DE) : DE := fun e => bnd (f e) fun v => bnd (snap v) fun x => valsL keep x
section
variable {X : Cx} {T : Tb} {W : WX} {a b c o e : Expr} {es : List Expr} {f g fo fv : DE} {da : DA} {σ : L2.St} {κ κ' : Kap} {H H' : Hp} {st : Sto} {CX : CXT} {k : Nat}
/-! ### several names -/
theorem set_two {i j : Nat} {env : DEnv} {v w : Val} : setAll env [(i, v), (j, w)] = (env.set i (some v)).set j (some w) := rfl
theorem s_par2 {i j : Nat} {x y : Str} {px py pt pos : Pos} {kt k2 pt2} (hc : X.calm = true) (hN : X.N.Nodup) (hi : X.N[i]? = some x) (hj : X.N[j]? = some y) (hij : i ≠ j) (hx : X.env.scope.names.lookup x = some .local) (hy : X.env.scope.names.lookup y = some .local)
    (ha : PA X [a, b] (tA X.K T W da)) (hw : swappedStores [.Tuple [.Name x px, .Name y py] kt pt] (.Tuple [a, b] k2 pt2) X.env = pure (some [x, y])) (hs : swapsWithSole [.Tuple [.Name x px, .Name y py] kt pt] (.Tuple [a, b] k2 pt2) pos.line X.env = pure false := by rfl) :
    PS X (.Assign [.Tuple [.Name x px, .Name y py] kt pt] (.Tuple [a, b] k2 pt2) pos) (tS X.K T W (sPar [i, j] da)) := ps_imp (ps_par hc hN hi hj hij hx hy ha hw hs) fun D σ H ⟨κ, st, env, c, h⟩ =>
  ⟨κ, st, env, c, (AftS.bndd c h).imp fun vs st1 κ1 H1 s1 e1 a1 us ru => by
    have a1 : AftS X.K T W κ1 H1 (if vs.length = 2 then .nx (setAll env ([i, j].zip vs)) st1 else .stuck) D := a1
    match vs, a1, ru with
    | [v, w], a1, ⟨u1, t1, h1, r1, u2, t2, h2, r2, h3⟩ =>
      subst h1 h2
      cases (show t2 = [] from h3)
      have a1 : AftS X.K T W κ1 H1 (.nx (setAll env [(i, v), (j, w)]) st1) D := a1
      exact ⟨u1, u2, rfl, AftS.nxd ⟨e1, ((c.env.step s1).set i r1).set j r2⟩ a1⟩⟩
theorem s_par3 {i j l : Nat} {x y z : Str} {px py pz pt pos : Pos} {kt k2 pt2} (hc : X.calm = true) (hN : X.N.Nodup) (hi : X.N[i]? = some x) (hj : X.N[j]? = some y) (hl : X.N[l]? = some z) (hij : i ≠ j) (hil : i ≠ l) (hjl : j ≠ l)
    (hx : X.env.scope.names.lookup x = some .local) (hy : X.env.scope.names.lookup y = some .local) (hz : X.env.scope.names.lookup z = some .local) (ha : PA X [a, b, c] (tA X.K T W da))
    (hw : swappedStores [.Tuple [.Name x px, .Name y py, .Name z pz] kt pt] (.Tuple [a, b, c] k2 pt2) X.env = pure (some [x, y, z])) (hs : swapsWithSole [.Tuple [.Name x px, .Name y py, .Name z pz] kt pt] (.Tuple [a, b, c] k2 pt2) pos.line X.env = pure false := by rfl) :
    PS X (.Assign [.Tuple [.Name x px, .Name y py, .Name z pz] kt pt] (.Tuple [a, b, c] k2 pt2) pos) (tS X.K T W (sPar [i, j, l] da)) := ps_imp (L2.ps_par3 hc hN hi hj hl hij hil hjl hx hy hz ha hw hs) fun D σ H ⟨κ, st, env, c, h⟩ =>
  ⟨κ, st, env, c, (AftS.bndd c h).imp fun vs st1 κ1 H1 s1 e1 a1 us ru => by
    have a1 : AftS X.K T W κ1 H1 (if vs.length = 3 then .nx (setAll env ([i, j, l].zip vs)) st1 else .stuck) D := a1
    match vs, a1, ru with
    | [v, w, w3], a1, ⟨u1, t1, h1, r1, u2, t2, h2, r2, u3, t3, h3, r3, h4⟩ =>
      subst h1 h2 h3
      cases (show t3 = [] from h4)
      have a1 : AftS X.K T W κ1 H1 (.nx (setAll env [(i, v), (j, w), (l, w3)]) st1) D := a1
      exact ⟨u1, u2, u3, rfl, AftS.nxd ⟨e1, (((c.env.step s1).set i r1).set j r2).set l r3⟩ a1⟩⟩
/-- names by values, whatever these are -/
def tGv (K : PySem.W.Frag) (T : Tb) (is : List Nat) : TGs := fun xs σ H Q => ∃ κ st env l, Cf K T σ κ H st env ∧ RepVals K T κ H l xs ∧ l.length = is.length ∧ ∀ σ', Cf K T σ' κ H st (setAll env (is.zip l)) → Q σ' H
theorem v_nil : PGs X [] (tGv X.K T []) := pgs_imp pgs_nil fun xs σ H Q ⟨κ, st, env, l, c, r, hl, h⟩ => by
  cases l with
  | nil => exact ⟨r, h σ c⟩
  | cons _ _ => cases hl
theorem v_cons {i : Nat} {is : List Nat} {x : Str} {pos : Pos} (hN : X.N.Nodup) (hi : X.N[i]? = some x) (hx : Loc X.env.scope x) (h2 : PGs X es (tGv X.K T is)) (hf : X.fn x = true ∨ X.env.scope.names.lookup x = some .local := by first | exact .inl rfl | exact .inr rfl | assumption)
    (hs : (assignEach (.Name x pos :: es) X.env).map (·.2) = assign (.Name x pos) X.env :: (assignEach es X.env).map (·.2) := by rfl) : PGs X (.Name x pos :: es) (tGv X.K T (i :: is)) :=
  pgs_imp (pgs_cons (pg_name hN hi hx hf) h2 hs) fun xs σ H Q ⟨κ, st, env, l, c, r, hl, h⟩ => by
    cases l with
    | nil => cases hl
    | cons d l =>
      obtain ⟨y, t, ey, ry, rt⟩ := r
      exact ⟨y, t, ey, κ, st, env.set i (some d), l, ⟨c.rel, c.env.set i ry⟩, rt, Nat.succ.inj hl, h⟩
/-- x, y, .. = a, b, .. by a tuple -/
theorem s_parU {is : List Nat} {ts : List Expr} {kt : Nat} {pt pt2 pos : Pos} {k2} (hc : X.calm = true) (ha : PA X es (tA X.K T W da)) (hg : PGs X ts (tGv X.K T is)) (hlen : es.length ≤ 1000)
    (hn : (assignEach ts X.env).length = is.length := by rfl) (hst : (assignEach ts X.env).findIdx? (·.1) = none := by rfl)
    (hs : swapsWithSole [.Tuple ts kt pt] (.Tuple es k2 pt2) pos.line X.env = pure false := by rfl) (hw : swappedStores [.Tuple ts kt pt] (.Tuple es k2 pt2) X.env = pure none := by rfl) (h1 : (assignEach [.Tuple ts kt pt] X.env).map (·.2) = [assign (.Tuple ts kt pt) X.env] := by rfl)
    (hi : is.length ≤ 1000) : PS X (.Assign [.Tuple ts kt pt] (.Tuple es k2 pt2) pos) (tS X.K T W (sPar is da)) := ps_imp (ps_asg (pe_tup ha) (pg_tup hc hg hn hst) hs hw h1) fun D σ H ⟨κ, st, env, c, h⟩ =>
  ⟨κ, st, env, c, (AftS.bndd c h).imp fun vs st1 κ1 H1 s1 e1 a1 us ru => by
    by_cases q : vs.length = is.length
    · rw [if_pos q] at a1
      have hlu := ru.length
      refine ⟨by rw [sizeLine_eq]; omega, fun p hp => ⟨p, us, rfl, .inl (.inl upd_same), by omega, κ1, st1, env, vs, ?_, RepVals.step (Step.alloc hp) _ _ ru, q, fun σ' c' => a1 σ' κ1 _ (Step.alloc hp) c'⟩⟩
      exact (c.step s1 e1).step (Step.alloc hp) (e1.alloc hp)
    · rw [if_neg q] at a1; exact a1.elim⟩
/-- x, y, .. = a tuple -/
theorem s_unp {is : List Nat} {kt : Nat} {pt pos : Pos} (ha : PE X a (tE X.K T W f)) (hg : PG X (.Tuple es kt pt) (tG X.K T is (tgT is)))
    (hs : swapsWithSole [.Tuple es kt pt] a pos.line X.env = pure false := by rfl) (hw : swappedStores [.Tuple es kt pt] a X.env = pure none := by rfl) (h1 : (assignEach [.Tuple es kt pt] X.env).map (·.2) = [assign (.Tuple es kt pt) X.env] := by rfl) :
    PS X (.Assign [.Tuple es kt pt] a pos) (tS X.K T W (sUnp is f)) := ps_imp (ps_asg ha hg hs hw h1) fun D σ H ⟨κ, st, env, c, h⟩ =>
  ⟨κ, st, env, c, (AftS.bndd c h).bind.imp fun v st1 κ1 H1 s1 e1 a1 u ru => by
    cases v with
    | cell _ => exact a1.elim
    | d x =>
      have a2 := After.retd e1 (show After X.K T W σ κ1 H1 (ret x st1) (fun x st κ H => AftS X.K T W κ H (match x with
        | .tup l => if l.length = is.length then .nx (setAll env (is.zip (l.map .d))) st else .stuck
        | _ => .stuck) D) from a1)
      cases x <;> first | exact a2.elim | skip
      rename_i l
      have a2 : AftS X.K T W κ1 H1 (if l.length = is.length then .nx (setAll env (is.zip (l.map .d))) st1 else .stuck) D := a2
      by_cases q : l.length = is.length
      · rw [if_pos q] at a2
        exact ⟨κ1, st1, env, .tup l, _, c.step s1 e1, ru, if_pos q, fun σ' c' _ => AftS.nxd c' a2⟩
      · rw [if_neg q] at a2; exact a2.elim⟩
theorem s_inc {i : Nat} {x : Str} {n : Int} {j : Nat} {p1 p2 pos : Pos} (hN : X.N.Nodup) (hi : X.N[i]? = some x) (hx : Loc X.env.scope x) (hf : X.fn x = true ∨ X.env.scope.names.lookup x = some .local := by first | exact .inl rfl | exact .inr rfl | assumption) :
    PS X (.AugAssign (.Name x p1) .Add (.Constant (.int n) j p2) pos) (tS X.K T W (sInc i n)) := ps_imp (ps_aug hN hi hx pe_int ip_add hf) fun D σ H ⟨κ, st, env, c, h⟩ => by
  have a1 := AftS.bndd c h
  have a1 : After X.K T W σ κ H (bnd (dVar i env) plain st) _ := a1
  cases q : env[i]? with
  | none => rw [bnd_stk (by simp only [dVar, q])] at a1; exact a1.elim
  | some o =>
    cases o with
    | none => rw [bnd_stk (by simp only [dVar, q])] at a1; exact a1.elim
    | some v =>
      rw [bnd_ok (a := v) (s' := st) (by simp only [dVar, q])] at a1
      obtain ⟨u, hu, ru⟩ := c.env.2 i v q
      cases v with
      | cell _ => exact a1.elim
      | d y =>
        have a2 := After.retd c.rel (show After X.K T W σ κ H (ret y st) (fun x st κ H => AftS X.K T W κ H (match x with
          | .int j => .nx (env.set i (some (.d (.int (j + n))))) st
          | _ => .stuck) D) from a1)
        cases y <;> first | exact a2.elim | skip
        rename_i m
        cases (show u = V.int m from ru)
        exact ⟨_, hu, m, n, rfl, rfl, AftS.nxd (env := env.set i (some (.d (.int (m + n))))) ⟨c.rel, c.env.set i (v := .d (.int (m + n))) rfl⟩ a2⟩
/-! ### attributes stored -/
theorem FldsOk.put {K : PySem.W.Frag} {ns : List Str} {n : Str} {i : Nat} (nd : ns.Nodup) (hi : ns[i]? = some n) {v : Val} {u : V} (rv : RepVal K T κ H v u) : ∀ {fs : List (Nat × Val)} {gs : List (Str × V)}, FldsOk K T κ H ns fs gs → FldsOk K T κ H ns (putN i v fs) (putF n u gs)
  | [], _, h => by cases (show _ = [] from h); exact ⟨n, u, [], rfl, hi, rv, rfl⟩
  | (j, w) :: r, _, ⟨m, x, t, e, hj, rx, rr⟩ => by
    subst e
    unfold putN putF
    by_cases z : j = i
    · subst z
      rw [hi] at hj
      cases hj
      rw [if_pos rfl, if_pos rfl]
      exact ⟨n, u, t, rfl, hi, rv, rr⟩
    · have hne : ¬ m = n := by
        rintro rfl
        obtain ⟨h1, e1⟩ := List.getElem?_eq_some_iff.mp hi
        obtain ⟨h2, e2⟩ := List.getElem?_eq_some_iff.mp hj
        exact z ((List.getElem_inj nd).mp (e2.trans e1.symm))
      rw [if_neg z, if_neg hne]
      exact ⟨m, x, _, rfl, hj, rx, FldsOk.put nd hi rv rr⟩
theorem FldsOk.len {K : PySem.W.Frag} {ns : List Str} : ∀ {fs : List (Nat × Val)} {gs : List (Str × V)}, FldsOk K T κ H ns fs gs → fs.length = gs.length
  | [], _, h => by cases (show _ = [] from h); rfl
  | (j, w) :: r, _, ⟨m, x, t, e, hj, rx, rr⟩ => by subst e; rw [List.length_cons, List.length_cons, FldsOk.len rr]
theorem s_attr {n : Str} {fld : Nat → Option Nat} {value : Expr} {pos pos' : Pos} (F : Fld X.K T n fld) (ho : PE X o (tE X.K T W fo)) (hv : PE X value (tE X.K T W fv)) (hs : swapsWith value (some (.Attribute o n pos')) pos.line X.env = pure false := by rfl) :
    PS X (.Assign [.Attribute o n pos'] value pos) (tS X.K T W (sAttr fld fo fv)) := ps_imp (ps_fld ho hv hs) fun D σ H ⟨κ, st, env, c, h⟩ =>
  ⟨κ, st, env, c, (AftS.bndd c h).bind.imp fun v st1 κ1 H1 s1 e1 a1 u ru => ⟨κ1, st1, env, c.step s1 e1, a1.bind.imp fun ov st2 κ2 H2 s2 e2 a2 x rx => by
    unfold attrI at a2
    split at a2
    · rename_i k
      cases q : st2[k]? with
      | none => rw [q] at a2; exact a2.elim
      | some oc =>
        rw [q] at a2
        cases oc with
        | none => exact a2.elim
        | some cl =>
          cases cl <;> first | exact a2.elim | skip
          rename_i cc fs
          obtain ⟨p, ex, hk, C, dx, ns, gs, g1, g2, g3, g4⟩ := e2.addr q rx
          have a2 : After (α := Val) X.K T W σ κ2 H2 (match fld cc with | some i => if fs.length < 1000 then Rs.ok (Val.d Fb.D.non) (st2.set k (some (.ins cc (putN i v fs)))) else Rs.stuck | none => Rs.stuck) (fun a st1 κ1 H1 => AftS X.K T W κ1 H1 (Rt.nx env st1) D) := a2
          cases q2 : fld cc with
          | none => rw [q2] at a2; exact a2.elim
          | some i =>
            rw [q2] at a2
            have a2 : After (α := Val) X.K T W σ κ2 H2 (if fs.length < 1000 then Rs.ok (Val.d Fb.D.non) (st2.set k (some (.ins cc (putN i v fs)))) else Rs.stuck) (fun a st1 κ1 H1 => AftS X.K T W κ1 H1 (Rt.nx env st1) D) := a2
            by_cases hl : fs.length < 1000
            · rw [if_pos hl] at a2
              obtain ⟨C', ns', k1, k2, k3, k4, k5⟩ := F.ok cc i q2
              rw [g1] at k1
              cases k1
              have sw : Step κ2 H2 κ2 (upd H2 p (.ins C dx (putF n u gs))) := Step.write hk
              have rw2 := e2.write (o := .ins C dx (putF n u gs)) (c := .ins cc (putN i v fs)) hk ⟨C, dx, ns, _, g1, g2, upd_same, FldsOk.put g2 k4 (RepVal.step sw _ _ (RepVal.step s2 _ _ ru)) (FldsOk.step sw _ _ g4)⟩
              exact ⟨p, C, dx, gs, ex, g3, k2, k3, by rw [← g4.len]; exact hl, AftS.nxd ⟨rw2, ((c.env.step s1).step s2).step sw⟩ (a2 κ2 _ sw rw2)⟩
            · rw [if_neg hl] at a2; exact a2.elim
    · exact a2.elim⟩⟩
/-! ### own methods -/
structure OwnM (X : Cx) (T : Tb) (CX : CXT) (k : Nat) (m : Str) (c : Nat) (g : Gn) : Prop where
  ex : ∃ C ns f, T.ct c = some (C, ns) ∧ Cls X.K C ∧ Meth X.K C m f ∧ m ∉ ns ∧ FnG X.prog X.w X.K T X.mg X.base CX k f [] g
theorem zip_none {m : Str} : ∀ {ns : List Str} {vs : List V}, m ∉ ns → (ns.zip vs).lookup m = none
  | [], _, _ => rfl
  | _ :: _, [], _ => rfl
  | n :: ns, v :: vs, h => by
    have hne : (m == n) = false := by
      rw [beq_eq_false_iff_ne]
      rintro rfl
      exact h (List.mem_cons_self ..)
    rw [List.zip_cons_cons, List.lookup_cons, hne]
    exact zip_none fun z => h (List.mem_cons_of_mem _ z)
theorem FldsOk.none {K : PySem.W.Frag} {m : Str} {ns : List Str} (h : m ∉ ns) : ∀ {fs : List (Nat × Val)} {gs : List (Str × V)}, FldsOk K T κ H ns fs gs → gs.lookup m = none
  | [], _, r => by cases (show _ = [] from r); rfl
  | (j, w) :: r, _, ⟨n, x, t, e, hj, rx, rr⟩ => by
    subst e
    have hne : (m == n) = false := by
      rw [beq_eq_false_iff_ne]
      rintro rfl
      exact h (List.mem_of_getElem? hj)
    rw [List.lookup_cons, hne]
    exact FldsOk.none h rr
theorem After.clsd {β : Type} {v : Val} {x : V} {k : Nat → M β} {P : β → Sto → Kap → Hp → Prop} (e : Rel X.K T κ H st) (rv : RepVal X.K T κ H v x) (h : After X.K T W σ κ H (bnd (clsV v) k st) P) :
    ∃ c a C ns dx fs, x = .ref a ∧ T.ct c = some (C, ns) ∧ H a = some (.ins C dx fs) ∧ (∀ m, m ∉ ns → fs.lookup m = none) ∧ After X.K T W σ κ H (k c st) P := by
  cases v with
  | d y =>
    cases y <;> first | exact h.elim | skip
    rename_i c fs
    obtain ⟨a, C, dx, ns, vs, e1, e2, e3, e4, e5, e6⟩ := rv
    exact ⟨c, a, C, ns, dx, _, e1, e3, e4, fun m hm => zip_none hm, h⟩
  | cell i =>
    unfold clsV at h
    rw [bnd_assoc] at h
    cases q : st[i]? with
    | none => rw [bnd_stk (by simp only [tagV, q])] at h; exact h.elim
    | some c =>
      cases c with
      | none => rw [bnd_stk (by simp only [tagV, q])] at h; exact h.elim
      | some c =>
        cases c with
        | lst l => rw [bnd_ok (a := Tg.lst) (s' := st) (by simp only [tagV, q])] at h; exact h.elim
        | dic t l => rw [bnd_ok (a := Tg.dic) (s' := st) (by simp only [tagV, q])] at h; exact h.elim
        | ins c fs =>
          rw [bnd_ok (a := Tg.ins c) (s' := st) (by simp only [tagV, q])] at h
          obtain ⟨a, ex, ha, C, dx, ns, gs, h1, h2, h3, h4⟩ := e.addr q rv
          exact ⟨c, a, C, ns, dx, gs, ex, h1, h3, fun m hm => h4.none hm, h⟩
variable {G : Nat → Option Gn} {m : Str} {p pos apos : Pos}
theorem own_read {σ : L2.St} {H : Hp} {Q : VK} (hG : ∀ c g, G c = some g → OwnM X T CX k m c g) (h : tE X.K T W (dOwn G fo da) σ H Q) :
    tE X.K T W fo σ H fun x H1 => ∃ a C dx fs, x = .ref a ∧ H1 a = some (.ins C dx fs) ∧ ∃ g f, Cls X.K C ∧ Meth X.K C m f ∧ fs.lookup m = none ∧ FnG X.prog X.w X.K T X.mg X.base CX k f [] g ∧ tA X.K T W da σ H1 fun us H2 => spG X.K T g (.ref a :: us) [] H2 Q (WE W σ) := by
  obtain ⟨κ, st, env, c, a⟩ := h
  refine ⟨κ, st, env, c, a.bind.imp fun v st1 κ1 H1 s1 e1 a1 x rx => ?_⟩
  obtain ⟨cc, ad, C, ns, dx, fs, ex, hc, ha, hl, a2⟩ := After.clsd e1 rx a1
  obtain ⟨g, q, a2⟩ := After.optd a2
  obtain ⟨C', ns', f, g1, g2, g3, g4, g5⟩ := (hG cc g q).ex
  rw [hc] at g1
  cases g1
  refine ⟨ad, C, dx, fs, ex, ha, g, f, g2, g3, hl m g4, g5, κ1, st1, env, c.step s1 e1, a2.bind.imp fun vs st2 κ2 H2 s2 e2 a3 us ru => ?_⟩
  refine ⟨κ2, st2, v :: vs, [], e2, ⟨.ref ad, us, rfl, ?_, ru⟩, rfl, (show After X.K T W σ κ2 H2 (g (v :: vs) [] st2) (PV X.K T Q) from a3).wish fun _ _ _ z => z⟩
  rw [← ex]
  exact RepVal.step s2 _ _ rx
theorem e_own {pl : Sem Bool} (hG : ∀ c g, G c = some g → OwnM X T CX k m c g) (hr : Room k X.A) (hx : ∀ σ, PassesAt CX X σ (WE W σ)) (ho : PE X o (tE X.K T W fo)) (ha : PA X (e :: es) (tA X.K T W da))
    (hst : starEach (e :: es) X.env = (false, eval e X.env) :: starEach es X.env := by rfl) (hpl : (backTo pos (starEach es X.env)).any (·.1) = false := by rfl)
    (ht : eval (.Call (.Attribute o m apos) (e :: es) [] pos) X.env = (do
      let ov ← eval o X.env
      standAt apos.atName
      let (f, first) ← holding [ov] (getMethod ov m pl)
      callWith pos f first (backTo pos (starEach (e :: es) X.env)) (backToKw pos (keywordEach [] X.env))) := by rfl) : PE X (.Call (.Attribute o m apos) (e :: es) [] pos) (tE X.K T W (dOwn G fo da)) := by
  constructor
  intro pins s σ H Q I h
  refine PySem.W.methodCall_KW (pl := pl) (thn (ho.run pins s σ H _ I (own_read hG h)) ?_) ht
  rintro u s1 ⟨x, H1, I1, rx, a, C, dx, fs, ex, ea, g, f, cl, mt, l, F, q⟩
  subst ex
  obtain rfl : u = Value.ref a := rx
  refine getmeth_ok I1 ea cl mt l ?_
  refine PySem.W.callWith_K (first := [.ref a]) (h₀ := X.base) I.ok.mod.kin mt.kp (thn (ha.run pos pins s1 σ H1 _ I1 q) ?_) hst hpl
  rintro us s2 ⟨vs, H2, I2, r, q2⟩
  exact ⟨I2.kIn, run_G (us := .ref a :: us) (vs := .ref a :: vs) F hr (hx σ) I2 (.cons rfl r) .nil rfl q2⟩
theorem e_own0 {pl : Sem Bool} (hG : ∀ c g, G c = some g → OwnM X T CX k m c g) (hr : Room k X.A) (hx : ∀ σ, PassesAt CX X σ (WE W σ)) (ho : PE X o (tE X.K T W fo))
    (ht : eval (.Call (.Attribute o m apos) [] [] pos) X.env = (do
      let ov ← eval o X.env
      standAt apos.atName
      let (f, first) ← holding [ov] (getMethod ov m pl)
      callWith pos f first (backTo pos (starEach [] X.env)) (backToKw pos (keywordEach [] X.env))) := by rfl) : PE X (.Call (.Attribute o m apos) [] [] pos) (tE X.K T W (dOwn G fo dNil)) := by
  constructor
  intro pins s σ H Q I h
  refine PySem.W.methodCall_KW (pl := pl) (thn (ho.run pins s σ H _ I (own_read hG h)) ?_) ht
  rintro u s1 ⟨x, H1, I1, rx, a, C, dx, fs, ex, ea, g, f, cl, mt, l, F, κ, st, env, c, q⟩
  subst ex
  obtain rfl : u = Value.ref a := rx
  refine getmeth_ok I1 ea cl mt l ?_
  exact PySem.W.callWith_K0 (first := [.ref a]) I1.kIn mt.kp (run_G (us := [.ref a]) (vs := [.ref a]) F hr (hx σ) I1 (.cons rfl .nil) .nil rfl (After.done (Step.refl _ _) c.rel q [] rfl))
/-! ### stars, try, values -/
theorem reps_of {K : PySem.W.Frag} : ∀ {l : List D} {xs : List V}, RepL K T κ H l xs → RepVals K T κ H (l.map .d) xs
  | [], _, h => by cases (show _ = [] from h); exact rfl
  | d :: l, _, ⟨x, t, e, h1, h2⟩ => ⟨x, t, e, h1, reps_of h2⟩
theorem a_star (ha : PE X a (tE X.K T W f)) (hr : PA X es (tA X.K T W da)) (hs : starEach (.Starred a p :: es) X.env = (true, eval a X.env) :: starEach es X.env := by rfl) : PA X (.Starred a p :: es) (tA X.K T W (dStar f da)) :=
  pa_imp (StX.pa_star ha hr hs) fun σ H Q ⟨κ, st, env, c, h⟩ => ⟨κ, st, env, c, h.bind.imp fun v st1 κ1 H1 s1 e1 a1 x rx => by
    obtain ⟨d, n, a2, _⟩ := After.snapd e1 rx a1
    have go : ∀ (l : List D) (xs : List V) (b : Addr), x = .ref b → (SqT X.K H1 b xs ∨ SqL X.K H1 b xs) → RepL X.K T κ1 H1 l xs → After X.K T W σ κ1 H1 (bnd (da env) (fun t => ret (l.map .d ++ t)) st1) (fun vs _ κ' H' => ∀ us, RepVals X.K T κ' H' vs us → Q us H') →
        ∃ p xs, x = .ref p ∧ (SqT X.K H1 p xs ∨ SqL X.K H1 p xs) ∧ tA X.K T W da σ H1 fun ys H2 => Q (xs ++ ys) H2 := fun l xs b ex hb rl a3 =>
      ⟨b, xs, ex, hb, κ1, st1, env, c.step s1 e1, a3.bind.imp fun vs st2 κ2 H2 s2 e2 a4 us ru => After.retd e2 a4 _ (RepVals.app (reps_of (RepL.step s2 _ _ rl)) ru)⟩
    cases d <;> first | exact a2.elim | skip
    · obtain ⟨b, xs, ex, hb, rl⟩ := n
      exact go _ xs b ex (.inl hb.sq) rl a2
    · obtain ⟨b, xs, ex, hb, rl⟩ := n
      exact go _ xs b ex (.inr (.inl (.inl hb))) rl a2
    · obtain ⟨b, ex, hb⟩ := n
      exact go _ _ b ex (.inr hb) (RepL.ints _) a2⟩
theorem s_try0 {ss : List Stmt} {h0 : ExceptHandler} {hs : List ExceptHandler} {q : DS} (hb : PSs X.nox ss (tS X.K T WF q)) : PS X (.Try ss (h0 :: hs) [] [] pos) (tS X.K T W (sTry0 q)) := ps_imp (ps_try_thru0 hb) fun D σ H ⟨κ, st, env, c, a⟩ => by
  refine ⟨κ, st, env, c, ?_⟩
  unfold sTry0 at a
  cases z : q env st with
  | nx e s => rw [z] at a; exact a
  | bk e s => rw [z] at a; exact a
  | ct e s => rw [z] at a; exact a
  | rt v s => rw [z] at a; exact a
  | exc x e s => rw [z] at a; exact a.elim
  | stuck => rw [z] at a; exact a
theorem e_lvals {keep : Bool} {mpos : Pos} (hc : X.calm = true) (hg : Gl X "list") (hm : X.mg "list" = none) (hv : bootBuiltins "list" = some (.type "list")) (hd : PE X o (tE X.K T W fo)) (hbase : attributeBase o "values" X.env (eval o X.env) = eval o X.env := by rfl) (hline : (apos.endLine == mpos.line) = true := by rfl)
    (hse : starEach [Expr.Call (.Attribute o "values" apos) [] [] mpos] X.env = (false, eval (Expr.Call (.Attribute o "values" apos) [] [] mpos) X.env) :: starEach [] X.env := by rfl) :
    PE X (.Call (.Name "list" p) [.Call (.Attribute o "values" apos) [] [] mpos] [] pos) (tE X.K T W (dVals keep fo)) := by
  constructor
  intro pins s σ H Q I ⟨κ, st, env, c, a⟩
  refine wpAny_Call_Name_kw (ld_blt I hg hm hv ?_ (by decide) (by decide))
  rw [hse]
  have hv2 : tE X.K T W fo σ H fun x H1 => ∃ κ1 st1 d, Rel X.K T κ1 H1 st1 ∧ Now X.K T κ1 H1 d x ∧ After X.K T W σ κ1 H1 (valsL keep d st1) (PV X.K T Q) := ⟨κ, st, env, c, a.bind.imp fun v st1 κ1 H1 s1 e1 a1 x rx => by
    obtain ⟨d, n, a2, _⟩ := After.snapd e1 rx a1
    exact ⟨κ1, st1, d, e1, n, a2⟩⟩
  refine PySem.callWith_type1 (wpAny_Call_method0_late hbase hline (thn (hd.run pins s σ H _ I hv2) ?_))
  rintro v s1 ⟨x, H1, I1, r1, κ1, st1, d, e1, n, a2⟩
  obtain ⟨t, l, el⟩ : ∃ t l, d = .dic t l := by
    cases d <;> first | exact a2.elim | exact ⟨_, _, rfl⟩
  subst el
  obtain ⟨b, es', ep, ks, ys, ex, hs, raw, hsz, hz, _, rk, _, vk⟩ := now_raw I1 e1 n
  subst ex
  obtain rfl : v = Value.ref b := r1
  have a2 : After X.K T W σ κ1 H1 (mkL keep (l.map (·.2)) st1) (PV X.K T Q) := a2
  have hl := RepL.length rk
  rw [List.length_map] at hl
  refine ⟨"dict", "dict.values", F.plainAttrs_dict, F.slot_dict_values, F.type_dict_values, raw.typeIs, fun q e => ?_, Calls.callWith_builtin rfl (PySem.evalArgs_none ?_)⟩
  · cases e
    obtain ⟨ob, ho, hx, _⟩ := raw
    exact ⟨ob, ho, hx.2.1⟩
  refine call_meetsIn F.slot_dict_values raw.typeIs F.entry_dict_values (F.args_dict_values_1 _) (meets_dict_values_raw b hs) ⟨⟨es', ep, raw⟩, ?_⟩
  have I2 : Inv X pins σ H1 { s1 with heap := s1.heap.push { cls := .type "dict_values", data := .fields #[.ref b] } } := I1.kept (t' := s1.toks) fun _ _ q => Heap.get?_push_of_some _ q
  have hview : (s1.heap.push { cls := .type "dict_values", data := .fields #[.ref b] }).IsValuesView s1.heap.objs.size b := ⟨_, Heap.get?_push_size _ rfl, rfl, rfl⟩
  have raw2 : (s1.heap.push { cls := .type "dict_values", data := .fields #[.ref b] }).DictRaw b es' ep := raw.at fun o q => Heap.get?_push_of_some _ q
  refine PySem.W.kdl_call PySem.KdlSrc.rawValues (I1.ok.hd hc) ⟨hview, raw2⟩ (by omega) fun h' tk acc cc kp hS it => ?_
  have hf := I2.hok.fresh (Nat.le_refl (s1.heap.push { cls := .type "dict_values", data := .fields #[.ref b] }).objs.size)
  have ea : acc.toList = es'.toList.map (·.val) := by
    apply List.ext_getElem?
    intro j
    rw [List.getElem?_map, Array.getElem?_toList, Array.getElem?_toList]
    cases q : acc[j]? with
    | none =>
      have := Array.getElem?_eq_none_iff.mp q
      rw [Array.getElem?_eq_none (by have := it.1; omega)]
      rfl
    | some v =>
      obtain ⟨hi, ev⟩ := it.2 j v q
      rw [Array.getElem?_eq_getElem hi, ev]
      rfl
  refine ⟨.ref (s1.heap.push { cls := .type "dict_values", data := .fields #[.ref b] }).objs.size, _, I2.laid (t' := tk) (o := .lst ys) kp (Nat.le_refl _) ⟨by omega, acc.toList, cc, by rw [ea]; exact vk, by rw [Array.toArray_toList]; exact hS⟩, rfl, mkL_ok e1 rk hf a2⟩
end
end Fb
/-! FbW -/
/-! FbW: the rules in short, as the printed walks use them. -/
namespace Fb
open PySem PySem.Spec PyProof.Rows L2
def dB (k : List Val → M Val) (a : DA) : DE := fun e => bnd (a e) k
def tChainD (op op' : Cop) (f g h : DE) : DT := fun e => bnd (f e) fun v => bnd (g e) fun u => bnd (opB (cmpD op) v u) fun r => if r then bnd (h e) fun w => opB (cmpD op') u w else ret false
theorem pf {X : Cx} (σ : L2.St) : PassesAt (L2.CX X.prog X.w) X σ (WE WF σ) := passAt takes0 σ
theorem hu65 {A : Around} {k : Nat} (hr : Room k A) : A.units + 65 < cLine := by have := hr.un; omega
section
variable {X : Cx} {T : Tb} {W : WX} {a b c e : Expr} {es : List Expr} {f g h : DE} {da : DA} {t : DT} {pos p : Pos} {k : Nat}
theorem v_ (i : Nat) {x : Str} (hN : X.N[i]? = some x := by rfl) (hv : Vis X.env.scope x := by first | exact Or.inl rfl | exact Or.inr (Or.inl rfl) | exact Or.inr (Or.inr rfl)) (hd : (x == ("__debug__" : Str)) = false := by decide)
    (hcd : (x == ("__classdict__" : Str)) = false := by decide) : PE X (.Name x pos) (tE X.K T W (dVar i)) := e_var i (pe_var hN hv hd hcd)
theorem e_add (ha : PE X a (tE X.K T W f)) (hb : PE X b (tE X.K T W g)) : PE X (.BinOp a .Add b pos) (tE X.K T W (dBin .add f g)) := e_bin o_add ha hb
theorem e_sub (ha : PE X a (tE X.K T W f)) (hb : PE X b (tE X.K T W g)) : PE X (.BinOp a .Sub b pos) (tE X.K T W (dBin .sub f g)) := e_bin o_sub ha hb
theorem e_mul (ha : PE X a (tE X.K T W f)) (hb : PE X b (tE X.K T W g)) : PE X (.BinOp a .Mult b pos) (tE X.K T W (dBin .mul f g)) := e_bin o_mul ha hb
theorem e_fdiv (ha : PE X a (tE X.K T W f)) (hb : PE X b (tE X.K T W g)) : PE X (.BinOp a .FloorDiv b pos) (tE X.K T W (dBin .fdiv f g)) := e_bin o_fdiv ha hb
theorem e_mod (ha : PE X a (tE X.K T W f)) (hb : PE X b (tE X.K T W g)) : PE X (.BinOp a .Mod b pos) (tE X.K T W (dBin .mod f g)) := e_bin o_mod ha hb
section
variable (hr : Room k X.A) (ha : PE X a (tE X.K T W f)) (hb : PE X b (tE X.K T W g))
include ha hb
theorem e_lt : PE X (.Compare a [.Lt] [b] pos) (tE X.K T W (tV (tCmp .lt f g))) := e_cmp o_lt ha hb (nomark _)
theorem t_lt : PT X (.Compare a [.Lt] [b] pos) (tT X.K T W (tCmp .lt f g)) := t_cmp o_lt ha hb (nomark _)
theorem e_le : PE X (.Compare a [.LtE] [b] pos) (tE X.K T W (tV (tCmp .le f g))) := e_cmp o_le ha hb (nomark _)
theorem t_le : PT X (.Compare a [.LtE] [b] pos) (tT X.K T W (tCmp .le f g)) := t_cmp o_le ha hb (nomark _)
theorem e_gt : PE X (.Compare a [.Gt] [b] pos) (tE X.K T W (tV (tCmp .gt f g))) := e_cmp o_gt ha hb (nomark _)
theorem t_gt : PT X (.Compare a [.Gt] [b] pos) (tT X.K T W (tCmp .gt f g)) := t_cmp o_gt ha hb (nomark _)
theorem e_ge : PE X (.Compare a [.GtE] [b] pos) (tE X.K T W (tV (tCmp .ge f g))) := e_cmp o_ge ha hb (nomark _)
theorem t_ge : PT X (.Compare a [.GtE] [b] pos) (tT X.K T W (tCmp .ge f g)) := t_cmp o_ge ha hb (nomark _)
theorem e_isN : PE X (.Compare a [.Is] [b] pos) (tE X.K T W (tV (tCmp .isN f g))) := e_cmp o_isN ha hb (nomark _)
theorem t_isN : PT X (.Compare a [.Is] [b] pos) (tT X.K T W (tCmp .isN f g)) := t_cmp o_isN ha hb (nomark _)
theorem e_notN : PE X (.Compare a [.IsNot] [b] pos) (tE X.K T W (tV (tCmp .notN f g))) := e_cmp o_notN ha hb (nomark _)
theorem t_notN : PT X (.Compare a [.IsNot] [b] pos) (tT X.K T W (tCmp .notN f g)) := t_cmp o_notN ha hb (nomark _)
theorem e_isB : PE X (.Compare a [.Is] [b] pos) (tE X.K T W (tV (tCmp .isB f g))) := e_cmp o_isB ha hb (nomark _)
theorem t_isB : PT X (.Compare a [.Is] [b] pos) (tT X.K T W (tCmp .isB f g)) := t_cmp o_isB ha hb (nomark _)
theorem e_notB : PE X (.Compare a [.IsNot] [b] pos) (tE X.K T W (tV (tCmp .notB f g))) := e_cmp o_notB ha hb (nomark _)
theorem t_notB : PT X (.Compare a [.IsNot] [b] pos) (tT X.K T W (tCmp .notB f g)) := t_cmp o_notB ha hb (nomark _)
include hr
theorem e_eq : PE X (.Compare a [.Eq] [b] pos) (tE X.K T W (tV (tCmp .eq f g))) := e_cmp (o_eq hr.units) ha hb (nomark _)
theorem t_eq : PT X (.Compare a [.Eq] [b] pos) (tT X.K T W (tCmp .eq f g)) := t_cmp (o_eq hr.units) ha hb (nomark _)
theorem e_ne : PE X (.Compare a [.NotEq] [b] pos) (tE X.K T W (tV (tCmp .ne f g))) := e_cmp (o_ne hr.units) ha hb (nomark _)
theorem t_ne : PT X (.Compare a [.NotEq] [b] pos) (tT X.K T W (tCmp .ne f g)) := t_cmp (o_ne hr.units) ha hb (nomark _)
theorem e_in (hm : behindInMarks .In b = false := by rfl) : PE X (.Compare a [.In] [b] pos) (tE X.K T W (tV (tCmp .inn f g))) := e_cmp (o_in (hu65 hr)) ha hb hm
theorem t_in (hm : behindInMarks .In b = false := by rfl) : PT X (.Compare a [.In] [b] pos) (tT X.K T W (tCmp .inn f g)) := t_cmp (o_in (hu65 hr)) ha hb hm
theorem e_nin (hm : behindInMarks .NotIn b = false := by rfl) : PE X (.Compare a [.NotIn] [b] pos) (tE X.K T W (tV (tCmp .nin f g))) := e_cmp (o_nin (hu65 hr)) ha hb hm
theorem t_nin (hm : behindInMarks .NotIn b = false := by rfl) : PT X (.Compare a [.NotIn] [b] pos) (tT X.K T W (tCmp .nin f g)) := t_cmp (o_nin (hu65 hr)) ha hb hm
end
theorem e_ch {op op' : CmpOp} {q q' : Cop} (ho : OpR X (compareOp op) (rC X.K T (cmpD q))) (ho' : OpR X (compareOp op') (rC X.K T (cmpD q'))) (ha : PE X a (tE X.K T W f)) (hb : PE X b (tE X.K T W g)) (hc : PE X c (tE X.K T W h))
    (hm : lastMarks [op, op'] [b, c] = false := by with_unfolding_all rfl) : PE X (.Compare a [op, op'] [b, c] pos) (tE X.K T W (tV (tChainD q q' f g h))) := e_chain ho ho' ha hb hc hm
theorem t_ch {op op' : CmpOp} {q q' : Cop} (ho : OpR X (compareOp op) (rC X.K T (cmpD q))) (ho' : OpR X (compareOp op') (rC X.K T (cmpD q'))) (ha : PE X a (tE X.K T W f)) (hb : PE X b (tE X.K T W g)) (hc : PE X c (tE X.K T W h))
    (hm : lastMarks [op, op'] [b, c] = false := by with_unfolding_all rfl) : PT X (.Compare a [op, op'] [b, c] pos) (tT X.K T W (tChainD q q' f g h)) := t_chain ho ho' ha hb hc hm
theorem e_len (hr : Room k X.A) (hg : Gl X "len") (hm : X.mg "len" = none) (ha : PA X (e :: es) (tA X.K T W da)) (he : starEach (e :: es) X.env = (false, eval e X.env) :: starEach es X.env := by rfl) (hpl : (backTo pos (starEach es X.env)).any (·.1) = false := by rfl) :
    PE X (.Call (.Name "len" p) (e :: es) [] pos) (tE X.K T W (dB bLen da)) := e_blt (c_len (Nat.lt_of_succ_lt (hu_of hr))) hg hm (by rfl) ha (by decide) (by decide) he hpl
theorem e_all (hc : X.calm = true) (hg : Gl X "all") (hm : X.mg "all" = none) (ha : PA X (e :: es) (tA X.K T W da)) (he : starEach (e :: es) X.env = (false, eval e X.env) :: starEach es X.env := by rfl) (hpl : (backTo pos (starEach es X.env)).any (·.1) = false := by rfl) :
    PE X (.Call (.Name "all" p) (e :: es) [] pos) (tE X.K T W (dB bAll da)) := e_blt (c_all hc) hg hm (by rfl) ha (by decide) (by decide) he hpl
theorem e_any (hc : X.calm = true) (hg : Gl X "any") (hm : X.mg "any" = none) (ha : PA X (e :: es) (tA X.K T W da)) (he : starEach (e :: es) X.env = (false, eval e X.env) :: starEach es X.env := by rfl) (hpl : (backTo pos (starEach es X.env)).any (·.1) = false := by rfl) :
    PE X (.Call (.Name "any" p) (e :: es) [] pos) (tE X.K T W (dB bAny da)) := e_blt (c_any hc) hg hm (by rfl) ha (by decide) (by decide) he hpl
theorem e_sum (hc : X.calm = true) (hg : Gl X "sum") (hm : X.mg "sum" = none) (ha : PA X (e :: es) (tA X.K T W da)) (he : starEach (e :: es) X.env = (false, eval e X.env) :: starEach es X.env := by rfl) (hpl : (backTo pos (starEach es X.env)).any (·.1) = false := by rfl) :
    PE X (.Call (.Name "sum" p) (e :: es) [] pos) (tE X.K T W (dB bSum da)) := e_blt (c_sum hc) hg hm (by rfl) ha (by decide) (by decide) he hpl
theorem e_abs (hg : Gl X "abs") (hm : X.mg "abs" = none) (ha : PA X (e :: es) (tA X.K T W da)) (he : starEach (e :: es) X.env = (false, eval e X.env) :: starEach es X.env := by rfl) (hpl : (backTo pos (starEach es X.env)).any (·.1) = false := by rfl) :
    PE X (.Call (.Name "abs" p) (e :: es) [] pos) (tE X.K T W (dB bAbs da)) := e_blt c_abs hg hm (by rfl) ha (by decide) (by decide) he hpl
theorem e_list (keep : Bool) (hc : X.calm = true) (hg : Gl X "list") (hm : X.mg "list" = none) (ha : PA X (e :: es) (tA X.K T W da)) (he : starEach (e :: es) X.env = (false, eval e X.env) :: starEach es X.env := by rfl) (hpl : (backTo pos (starEach es X.env)).any (·.1) = false := by rfl) :
    PE X (.Call (.Name "list" p) (e :: es) [] pos) (tE X.K T W (dB (bList keep) da)) := e_bty (c_list hc keep) hg hm (by rfl) ha (by decide) (by decide) he hpl
theorem e_tuple (hg : Gl X "tuple") (hm : X.mg "tuple" = none) (ha : PA X (e :: es) (tA X.K T W da)) (he : starEach (e :: es) X.env = (false, eval e X.env) :: starEach es X.env := by rfl) (hpl : (backTo pos (starEach es X.env)).any (·.1) = false := by rfl) :
    PE X (.Call (.Name "tuple" p) (e :: es) [] pos) (tE X.K T W (dB bTuple da)) := e_bty c_tuple hg hm (by rfl) ha (by decide) (by decide) he hpl
/-- live lists and dicts -/
theorem e_lstL (hr : PA X es (tA X.K T W da)) : PE X (.List es pos) (tE X.K T W (dLstL da)) := pe_imp (pe_lst hr) fun σ H Q ⟨κ, st, env, c, a⟩ => by
  refine ⟨κ, st, env, c, a.bind.imp fun vs st1 κ1 H1 s1 e1 a1 us rus => ?_⟩
  obtain ⟨ds, rd, a2⟩ := After.plainsd rus a1
  obtain ⟨hz, a3⟩ := a2.capd
  rw [RepL.length rd] at hz
  exact ⟨million hz, fun p hp => mkL_ok (keep := true) e1 rd hp a3⟩
theorem e_dict0 (kt : Bool) : PE X (.Dict [] [] pos) (tE X.K T W (dDic0 kt)) := by
  have go : ∀ {σ : L2.St} {H : Hp} {Q : VK}, tE X.K T W (dDic0 kt) σ H Q → ∀ p, H p = none → Q (.ref p) (upd H p (nul kt)) := fun {σ H Q} ⟨κ, st, env, c, a⟩ p hp => by
    have sg : Step κ H (κ ++ [some p]) (upd H p (nul kt)) := Step.grow c.rel hp
    have a : After X.K T W σ κ H (.ok (.cell st.length) (st ++ [some (.dic kt [])])) (PV X.K T Q) := a
    refine a _ _ sg (c.rel.grow hp (by cases kt <;> exact ⟨[], upd_same, rfl⟩)) _ ?_
    rw [← c.rel.len]
    exact (Step.refl _ _).self
  cases kt with
  | false => exact pe_imp pe_dnewK fun σ H Q h => go h
  | true => exact pe_imp pe_dnewT fun σ H Q h => go h
theorem k1_len {env : DEnv} {st st' : Sto} {vs : List Val} (h : dCons f dNil env st = .ok vs st') : vs.length = 1 := by
  unfold dCons at h
  unfold bnd at h
  cases q : f env st with
  | ok v s1 => rw [q] at h; cases h; rfl
  | exc x s1 => rw [q] at h; cases h
  | stuck => rw [q] at h; cases h
theorem pp_nil : PPs X pos [] [] (tPr X.K T W []) := pps_nil
theorem pp_cons {ks : List (Option Expr)} {vs : List Expr} {prs : List (DE × DE)} (hk : PE X a (tE X.K T W f)) (hv : PE X b (tE X.K T W g)) (hr : PPs X pos ks vs (tPr X.K T W prs)) : PPs X pos (some a :: ks) (b :: vs) (tPr X.K T W ((f, g) :: prs)) := pps_cons hk hv hr
end
end Fb
/-! FbX -/
/-! FbX: a def with two parameters, a star and one keyword-only parameter. -/
namespace Fb
open PySem PySem.Spec PyProof.Rows L2
def starK (b0 : Bool) : List Val → Option Val
  | [] => some (.d (.bl b0))
  | [z] => some z
  | _ => none
def starG (ns : Nat) (f : DS) (b0 : Bool) : Gn := fun args kargs => match args with
  | a :: b :: rest => bnd (plains rest) fun xs => bnd (optM (starK b0 kargs)) fun z => cap xs.length (fnD 4 ns f [a, b, z, .d (.tup xs)])
  | _ => stk
/-- the keyword is looked up, then the tuple is made -/
def KwThen {α : Type} (D : Addr) (pk : Str) (t : Sem α) (fin : Value → Sem α) : Prop := ∃ (β γ : Type) (k1 : Option Value → Sem β) (k2 : β → Sem γ) (k3 : γ → Sem α), t = ((nsGet D pk >>= k1) >>= k2) >>= k3 ∧ ∀ v, ∃ a, k1 (some v) = pure a ∧ (k2 a >>= k3) = fin v
section
variable {P : Program} {w : World} {K : PySem.W.Frag} {T : Tb} {mg : Str → Option Value} {base : Heap} {x qual : Str} {params : Arguments} {body : List Stmt} {scope : Scope} {f : Addr} {fd : FuncData} {N : List Str} {k : Nat} {fD : DS} {p1 p2 pk pv : Str} {b0 : Bool}
theorem fn_starG (ks : List Str) (hks : ks = [] ∨ ks = [pk]) (F : FunD K x qual params body scope [] [(pk, V.bl b0)] f fd) (S : FnScope N ([p1, p2, pk] ++ [pv]) scope)
    (h0 : ∀ (D : Addr) (doc pm : Value) (an : Option Addr) (cdv ct a b : Value) (rest : List Value), KwThen D pk (bindArgs (PySem.W.fnOf x qual params body scope .none (.ref D) doc pm an cdv ct) ⟨a :: b :: rest, []⟩) fun v => (newTuple rest >>= fun t => pure [(p1, a), (p2, b), (pk, v), (pv, t)]))
    (h1 : ∀ (D : Addr) (doc pm : Value) (an : Option Addr) (cdv ct a b v : Value) (rest : List Value), bindArgs (PySem.W.fnOf x qual params body scope .none (.ref D) doc pm an cdv ct) ⟨a :: b :: rest, [(pk, v)]⟩ = (newTuple rest >>= fun t => pure [(p1, a), (p2, b), (pk, v), (pv, t)]))
    (hbody : ∀ (cdv : Value) (A : Around) (outer : List Env) (s : Shared) (H : Hp) (E : XK), Room k (A.deeper (envOfC qual scope s.heap.objs.size f cdv)) →
      PSs (cxOf (L2.CX P w) P w K mg base N qual scope f cdv A outer s H E) body (tS K T (WK E) fD)) : FnG P w K T mg base (L2.CX P w) (k + 1) f ks (starG N.length fD b0) := by
  obtain ⟨oc, od, dV, kV, doc, pm, an, cdv, ct, osl, rfl, lk, hcd, hD, hK⟩ := F.ex
  have hdV : dV = .none := by
    rcases hD with ⟨_, e⟩ | ⟨e, _⟩
    · exact e
    · exact absurd rfl e
  subst hdV
  obtain ⟨Dk, rfl, hq⟩ : ∃ D : Addr, kV = .ref D ∧ ∀ q ∈ [(pk, V.bl b0)], ∃ u, PySem.W.nsIn K D q.1 = some (some u) ∧ RelV q.2 u := by
    rcases hK with e | e
    · cases e
    · exact e
  obtain ⟨u0, hu0, ru0⟩ := hq _ (List.mem_singleton.mpr rfl)
  intro A outer s H us ws vs zs Q E hr e0 rv rz hz ⟨κ, st, args, kargs, r, rvs, rzs, a⟩
  have KX : K.In s.heap := e0.mod.kin.keeps fun b o e => (e0.bs b o e).1
  unfold starG at a
  split at a
  · rename_i va vb vrest
    obtain ⟨x1, t1, e1, r1, x2, rest, e2, r2, r3⟩ := rvs
    subst e1 e2
    obtain ⟨ds, rd, a1⟩ := After.plainsd r3 a
    obtain ⟨z, ez, a2⟩ := After.optd a1
    obtain ⟨hcap, a3⟩ := a2.capd
    have hlen := RepL.length rd
    cases rv with
    | @cons _ u1 _ us1 rv1 rvt =>
      cases rvt with
      | @cons _ u2 _ us2 rv2 rv3 =>
        have hn : H s.heap.objs.size = Option.none := e0.hok.fresh (Nat.le_refl _)
        have hl2 : us2.length ≤ sizeLine := by rw [← rv3.length, ← hlen]; exact million hcap
        -- the keyword's value
        obtain ⟨zv, zu, rzv, hrz, hbind⟩ : ∃ (zv : V) (zu : Value), RelV zv zu ∧ RepVal K T κ H z zv ∧ ∀ (A' : Around) (Ex : Value → Shared → Prop) (Q' : List (Str × Value) → Shared → Prop),
            wpAny (model P w) A' (newTuple us2 >>= fun t => pure [(p1, u1), (p2, u2), (pk, zu), (pv, t)]) Q' Ex s → wpAny (model P w) A' (bindArgs (PySem.W.fnOf x qual params body scope .none (.ref Dk) doc pm an cdv ct) ⟨u1 :: u2 :: us2, ks.zip ws⟩) Q' Ex s := by
          rcases hks with hk | hk
          · subst hk
            cases zs with
            | cons _ _ => cases hz
            | nil =>
              cases rz
              cases kargs with
              | cons _ _ => obtain ⟨_, _, e, _⟩ := rzs; cases e
              | nil =>
                cases ez
                refine ⟨V.bl b0, u0, ru0, rfl, fun A' Ex Q' h => ?_⟩
                obtain ⟨β, γ, k1, k2, k3, et, hv⟩ := h0 Dk doc pm an cdv ct u1 u2 us2
                obtain ⟨av, ea, efin⟩ := hv u0
                show wpAny _ _ (bindArgs _ ⟨u1 :: u2 :: us2, []⟩) _ _ _
                rw [et, bind_assoc]
                refine wpAny_bind (((PySem.W.looks_nsIn KX hu0).andThen (PySem.W.Looks.of_pure ea)).here ?_)
                rw [efin]
                exact h
          · subst hk
            match zs, hz with
            | [zv], _ =>
              cases rz with
              | @cons _ zu _ _ rz1 rzt =>
                cases rzt
                match kargs, rzs, ez with
                | [zk], ⟨zx, zt, e3, rzk, _⟩, ez =>
                  cases e3
                  cases ez
                  refine ⟨zv, zu, rz1, rzk, fun A' Ex Q' h => ?_⟩
                  show wpAny _ _ (bindArgs _ ⟨u1 :: u2 :: us2, [(pk, zu)]⟩) _ _ _
                  rw [h1]
                  exact h
                | [], rzs, _ => cases (show [zv] = [] from rzs)
        refine StX.run_bnd (ps := [p1, p2, pk] ++ [pv]) lk hcd S hr e0 (G := fun xs H2 => ∃ p, H p = Option.none ∧ xs = [x1, x2, zv, V.ref p] ∧ H2 = upd H p (.tup rest)) (fun A' Ex Q' h => hbind A' Ex Q' ?_) fun s2 H2 xs g hr2 => ?_
        · refine wpAny_bind (wpAny_newTuple (wpAny_pure ?_) hl2)
          have new : ObjOk P w (upd H s.heap.objs.size (.tup rest)) (s.heap.push ({ cls := .type "tuple", data := .seq us2.toArray } : Obj)) s.heap.objs.size (.tup rest) :=
            ⟨by rw [← hlen]; exact million hcap, us2, rv3, _, Heap.get?_push_size _ rfl, rfl, _, rfl⟩
          have un := StX.un_laid (fs := frs outer) (s := s) (o := ({ cls := .type "tuple", data := .seq us2.toArray } : Obj)) (u := .tup rest) hn
          exact h _ _ [x1, x2, zv, V.ref s.heap.objs.size] [u1, u2, zu, Value.ref s.heap.objs.size] (StX.env0_laid e0 new) un rfl (fun e s' => StX.cxUp outer s H _ _ E e s' un (fun b o q => Heap.get?_push_of_some _ q) rfl)
            (.cons rv1 (.cons rv2 (.cons rzv (.cons rfl .nil)))) rfl ⟨_, hn, rfl, rfl⟩
        · obtain ⟨p, hp, exs, eH⟩ := g
          subst exs eH
          have sa : Step κ H κ (upd H p (.tup rest)) := Step.alloc hp
          have hN : 4 ≤ N.length := by have := congrArg List.length S.pre; rw [List.length_take] at this; have e4 : ([p1, p2, pk] ++ [pv]).length = 4 := rfl; omega
          refine ⟨_, hbody cdv A outer s2 _ E hr2, After.body (args := [va, vb, z, .d (.tup ds)]) (vs := [x1, x2, zv, V.ref p]) (r.alloc hp) ⟨x1, _, rfl, RepVal.step sa _ _ r1, x2, _, rfl, RepVal.step sa _ _ r2, zv, _, rfl, RepVal.step sa _ _ hrz, V.ref p, [], rfl, rep_tup_new r hp rd, rfl⟩ hN (After.since sa a3)⟩
  · exact a.elim
end
/-- the law's def -/
def spL (K : PySem.W.Frag) (T : Tb) (n : Nat) (g : List Val → M Val) : Sp := fun vs H Q E => vs.length = n ∧ ∃ κ st args, Rel K T κ H st ∧ RepVals K T κ H args vs ∧ After K T (WK E) [] κ H (g args st) (PV K T Q)
theorem fn_L {P : Program} {w : World} {K : PySem.W.Frag} {T : Tb} {mg : Str → Option Value} {base : Heap} {CX : CXT} {x qual : Str} {params : Arguments} {body : List Stmt} {scope : Scope} {dvs : List V} {kws : List (Str × V)} {f : Addr} {fd : FuncData} {N ps : List Str} {k : Nat} {fD : DS}
    (F : FunD K x qual params body scope dvs kws f fd) (S : FnScope N ps scope)
    (hbody : ∀ (cdv : Value) (A : Around) (outer : List Env) (s : Shared) (H : Hp) (E : XK), Room k (A.deeper (envOfC qual scope s.heap.objs.size f cdv)) →
      PSs (cxOf CX P w K mg base N qual scope f cdv A outer s H E) body (tS K T (WK E) fD)) : FnOk P w K mg base CX (k + 1) f fd ps (spL K T ps.length (fnD ps.length N.length fD)) := by
  have hpl : ps.length ≤ N.length := by have := congrArg List.length S.pre; rw [List.length_take] at this; omega
  refine F.ok S (fun vs H Q E h => h.1) fun cdv A outer s H vs Q E hr h => ?_
  obtain ⟨_, κ, st, args, r, rv, a⟩ := h
  exact ⟨_, hbody cdv A outer s H E hr, After.body r rv hpl a⟩
/-- the script stands, the law answers true -/
theorem law_ok {K : PySem.W.Frag} {T : Tb} {H : Hp} {a : Addr} {ns : List Int} {g : List Val → M Val} {st : Sto} (h : SqL K H a (ns.map V.int)) (e : g [.d (.arr ns)] [] = .ok (.d (.bl true)) st) : spL K T 1 g [.ref a] H (fun v _ => v = .bl true) fun _ _ _ => False := by
  refine ⟨rfl, [], [], [.d (.arr ns)], ⟨rfl, (fun i j a h _ => by simp at h), (fun i a h => by simp at h), (fun i c h => by simp at h)⟩, ⟨.ref a, [], rfl, ⟨a, rfl, ?_⟩, rfl⟩, ?_⟩
  · rcases h with h | h
    · exact .inl ⟨(fun z => by simp at z), h⟩
    · exact .inr fun _ => .inr h
  · rw [e]
    exact fun κ' H' _ _ u r => r
theorem kit_self {K : PySem.W.Frag} {C : Addr} : PySem.W.kitOne K (.ref C) (.ref C) = some true := by
  unfold PySem.W.kitOne
  rw [if_pos (by simp)]
/-- an own class's facts, told by one look -/
def ownB (K : PySem.W.Frag) (C : Addr) : Bool :=
  decide (PySem.W.findIn K (.ref C) "__class__" = some (some (.builtin "object.__class__"))) && (decide (PySem.W.specialIn K (.builtin "object.__class__") "__get__" = some (some (.builtin "getset_descriptor.__get__"))) &&
    (decide (PySem.W.takesIn K (.builtin "object.__class__") = some true) && decide (PySem.W.mroIn K C (.type "object") = some true)))
theorem own_of {K : PySem.W.Frag} {C : Addr} (cl : Cls K C) (h : ownB K C = true) : OwnC K C := by
  unfold ownB at h
  simp only [Bool.and_eq_true, decide_eq_true_eq] at h
  exact ⟨cl, h.1, h.2.1, h.2.2.1, h.2.2.2⟩
end Fb
/-! FbY -/
/-! FbY: enumerate, zip. -/
namespace Fb
open PySem PySem.Spec PyProof.Rows L2
/-! ### enumerate -/
def enumF : Nat → List D → List D
  | _, [] => []
  | i, x :: r => .tup [.int (i : Nat), x] :: enumF (i + 1) r
theorem enumF_get : ∀ (l : List D) (j i : Nat), (enumF j l)[i]? = (l[i]?).map fun x => .tup [.int ((j + i : Nat) : Int), x]
  | [], _, i => by simp [enumF]
  | x :: r, j, 0 => by simp [enumF]
  | x :: r, j, i + 1 => by
    have := enumF_get r (j + 1) i
    simp only [enumF, List.getElem?_cons_succ]
    rw [this, show j + 1 + i = j + (i + 1) by omega]
def enumM : List Val → M Src
  | [.d (.lst l)] => ret (.its (enumF 0 l))
  | [.d (.arr l)] => ret (.its (enumF 0 (l.map .int)))
  | _ => stk
def iEnum (a : DA) : DI := fun e => bnd (a e) enumM
section
variable {X : Cx} {T : Tb} {W : WX} {pos : Pos} {a b c e tg iter : Expr} {es : List Expr} {f : DE} {da : DA}
theorem wk_enum {K : PySem.W.Frag} {κ : Kap} {H : Hp} {a : Addr} {l : List D} (hs : ∀ κ' H', Step κ H κ' H' → ∃ xs, SqL K H' a xs ∧ RepL K T κ' H' l xs) : Wk K T (Ite K a) κ H (.its (enumF 0 l)) := by
  intro κ' H' st' s' r' i o hcu
  obtain ⟨xs, p, rl⟩ := hs κ' H' s'
  have hcu : (enumF 0 l)[i]? = o := Option.some.inj hcu
  rw [enumF_get] at hcu
  cases e : l[i]? with
  | none =>
    rw [e] at hcu
    subst hcu
    exact ⟨xs, p, (rl.get' i).2 e⟩
  | some d =>
    rw [e] at hcu
    subst hcu
    obtain ⟨x, ex, rx⟩ := (rl.get' i).1 d e
    refine ⟨⟨xs, x, p, ex⟩, fun y H2 ⟨T', x', h2, h3, h4, h5⟩ => ?_⟩
    have := h5 xs p
    rw [ex] at this
    cases this
    subst h2 h4
    refine ⟨Step.alloc h3, r'.alloc h3, ?_⟩
    refine rep_tup_new r' h3 (l := [.int ((0 + i : Nat) : Int), d]) ⟨_, _, rfl, ?_, _, _, rfl, rx, rfl⟩
    rw [Nat.zero_add]
    rfl
theorem i_enum {elts : List Expr} {kk : Nat} {p tpos : Pos} (hg : Gl X "enumerate") (hm : X.mg "enumerate" = none) (ha : PA X [e] (tA X.K T W da)) (hs : starEach [e] X.env = [(false, eval e X.env)] := by rfl) :
    PI X (.Tuple elts kk tpos) (.Call (.Name "enumerate" p) [e] [] pos) (tI X.K T W (iEnum da)) :=
  pi_imp (pi_enum hg hm ha hs) fun σ H R h => tA_mono (tA_tI h) fun us H1 ⟨κ, st, vs, r, ru, b⟩ => by
    unfold enumM at b
    split at b
    · rename_i l
      obtain ⟨x, t, e1, ⟨ad, xs, e2, la, rl⟩, e3⟩ := ru
      cases (show _ = [] from e3)
      exact ⟨ad, xs, by rw [e1, e2], la.sq, After.retd r b _ (wk_enum fun κ' H' s => ⟨xs, (la.step s).sq, RepL.step s _ _ rl⟩)⟩
    · rename_i l
      obtain ⟨x, t, e1, ⟨ad, e2, la⟩, e3⟩ := ru
      cases (show _ = [] from e3)
      exact ⟨ad, _, by rw [e1, e2], la.sq, After.retd r b _ (wk_enum fun κ' H' s => ⟨_, (la.step s).sq, RepL.ints _⟩)⟩
    · exact b.elim
end
end Fb
/-! FbZ -/
/-! FbZ: facts of the head looked at by Bools; the law's end. -/
namespace Fb
open PySem PySem.Spec PyProof.Rows L2
def tg7 : List Tg := [.non, .bl, .int, .str, .tup, .lst, .dic]
/-- the kinds' part of IsQ -/
def isqT (K : PySem.W.Frag) (u : Value) (q : Tg → Option Bool) : Bool := tg7.all fun t => match q t, tyT t with
  | some b, some n => decide (PySem.W.kitOne K (.type n) u = some b)
  | _, _ => true
/-- the own classes' part -/
def isqC (K : PySem.W.Frag) (T : Tb) (u : Value) (q : Tg → Option Bool) (n : Nat) : Bool := (List.range n).all fun c => match q (.ins c), T.ct c with
  | some b, some (C, _) => ownB K C && decide (PySem.W.kitOne K (.ref C) u = some b)
  | some _, none => false
  | none, _ => true
theorem isq_of {K : PySem.W.Frag} {T : Tb} {u : Value} {q : Tg → Option Bool} {n : Nat} (h1 : isqT K u q = true) (h2 : isqC K T u q n = true) (hq : ∀ c, n ≤ c → q (.ins c) = none)
    (hcl : ∀ c C ns, c < n → T.ct c = some (C, ns) → Cls K C) : IsQ K T u q where
  ty := fun t m b e1 e2 => by
    have ht : t ∈ tg7 := by cases t <;> first | (cases e2; done) | simp [tg7]
    have z := List.all_eq_true.mp h1 t ht
    rw [e1, e2] at z
    exact of_decide_eq_true z
  own := fun c b e => by
    by_cases hc : c < n
    · have z := List.all_eq_true.mp h2 c (List.mem_range.mpr hc)
      rw [e] at z
      cases y : T.ct c with
      | none => rw [y] at z; cases z
      | some p =>
        obtain ⟨C, ns⟩ := p
        rw [y] at z
        have z2 := Bool.and_eq_true_iff.mp z
        exact ⟨C, ns, rfl, own_of (hcl c C ns hc y) z2.1, of_decide_eq_true z2.2⟩
    · rw [hq c (by omega)] at e; cases e
/-- a law: F gives the written part, the function object, the promise -/
theorem walk_ofF {l : PySem.W.OpenLaw} {n k : Nat} {q : Program} {loose : List Str} {XP : (Str → Option Value) → Heap → Prop} {YP : World → Heap → Prop} {d : DefRec} {CX : World → CXT} {x : Str}
    (hn : l.most = some n) (hn2 : n ≤ sizeLine) (hdf : d.params.defaults = []) (hr : Room k callerA)
    (F : ∀ (w : World) (mg : Str → Option Value) (fa : Addr) (h : Heap), YP w h → h.Ns mainGlobals mg → mg d.name = some (.ref fa) →
      ∃ (K : PySem.W.Frag) (fd : FuncData) (sp : Sp), K.In h ∧ (∀ (s : Shared) (u : Value), BindsTo s fd ⟨[u], []⟩ [(x, u)]) ∧
        (∀ (H : Hp) (a : Addr) (ns : List Int), ns.length ≤ n → Only H → SqL K H a (ns.map V.int) → sp [.ref a] H (fun v _ => v = .bl true) fun _ _ _ => False) ∧
        ∀ base : Heap, K.In base → base.Ns mainGlobals mg → FnOk l.prog w K mg base (CX w) k fa fd [x] sp)
    (hCX : ∀ (w : World) (H : Hp) (s : Shared) (e : Value) (s' : Shared), CX w [] H s (fun _ _ _ => False) e s' → False) :
    PySem.W.WalkO q loose XP YP l.row.toRowW d [] (fun f vs => PySem.call f vs) := by
  refine Att.attach_call hn hdf fun w s₀ s₁ mg mb fa o pm cd doc a vs ns G Y ho hd hcd hmg hobj hints hlen hg => ?_
  obtain ⟨K, fd, sp, KX, hb, hsp, hF⟩ := F w mg fa _ Y G.T.g hmg
  exact law_call KX G.T.g G.T.b G.T.builtins G.T.nolimit hg hobj hints (Nat.le_trans hlen hn2) hr hF hb (fun H hO hS => hsp H a ns hlen hO hS) fun H e s' => hCX w H s₁ e s'
theorem cx_out (P : Program) (w : World) (H : Hp) (s : Shared) (e : Value) (s' : Shared) (h : L2.CX P w [] H s (fun _ _ _ => False) e s') : False := by
  obtain ⟨_, _, _, _, _, _, _, _, _, _, _, _, z⟩ := h
  exact z
end Fb
/-! FbAA -/
/-! FbAA: list items stored, lists added live, range of three, max and min of two, dicts copied, keys popped, get of one. -/
namespace Fb
open PySem PySem.Spec PyProof.Rows L2
/-! ### plain -/
def lputI : Val → Val → Val → M Val
  | .cell k, .d (.int i), .d y => celL k fun l => bnd (optM (L2.ixN l.length i)) fun j => wr k (.lst (l.set j y)) (.d .non)
  | _, _, _ => stk
def sLPut (fo fi fv : DE) : DS := fun e => bndE (bnd (fv e) fun v => bnd (fo e) fun o => bnd (fi e) fun i => lputI o i v) e fun _ s => .nx e s
def addL2 : D → D → M Val
  | .lst a, .lst b => if a.length + b.length < 1000000 then newCell (.lst (a ++ b)) else stk
  | _, _ => stk
/-- a + b of lists, a new list that is written -/
def dAddL (f g : DE) : DE := fun e => bnd (f e) fun v => bnd (g e) fun u => bnd (snap v) fun x => bnd (snap u) fun y => addL2 x y
def uptoC (lo c : Int) (n : Nat) : List D := (List.range n).map fun i => .int (lo + (i : Nat) * c)
def rng3 : List Val → M Src
  | [.d (.int i), .d (.int j), .d (.int c)] => if c ≠ 0 ∧ c.natAbs < 1073741824 ∧ Builtin.Range.small i j c = true ∧ 0 ≤ Builtin.Range.rangeSize i j c then ret (.its (uptoC i c (Builtin.Range.rangeSize i j c).toNat)) else stk
  | _ => stk
def iRange3 (a : DA) : DI := fun e => bnd (a e) rng3
def bMax2 : List Val → M Val
  | [.d (.int i), .d (.int j)] => ret (.d (.int (if j > i then j else i)))
  | _ => stk
def bMin2 : List Val → M Val
  | [.d (.int i), .d (.int j)] => ret (.d (.int (if j < i then j else i)))
  | _ => stk
def mkD (keep t : Bool) (l : List (D × D)) : M Val := if keep then newCell (.dic t l) else bnd (newCell (.dic t l)) fun v => match v with
  | .cell k => dropTo k
  | _ => stk
section
variable {X : Cx} {T : Tb} {W : WX} {pos p : Pos} {a b c e o i value : Expr} {es : List Expr} {f g fo fi fv : DE} {da : DA} {σ : L2.St} {κ κ' : Kap} {H H' : Hp} {st : Sto}
theorem RepL.setD {K : PySem.W.Frag} : ∀ {l : List D} {xs : List V} (j : Nat) {y : D} {v : V}, RepL K T κ H l xs → Rep K T κ H y v → RepL K T κ H (l.set j y) (xs.set j v)
  | [], _, j, y, v, h, _ => by cases (show _ = [] from h); exact rfl
  | d :: r, _, 0, y, v, ⟨x, t, e, h1, h2⟩, q => by subst e; exact ⟨v, t, rfl, q, h2⟩
  | d :: r, _, j + 1, y, v, ⟨x, t, e, h1, h2⟩, q => by subst e; exact ⟨x, t.set j v, rfl, h1, RepL.setD j h2 q⟩
theorem s_lput {tpos : Pos} (ho : PE X o (tE X.K T W fo)) (hi : PE X i (tE X.K T W fi)) (hv : PE X value (tE X.K T W fv)) (hs : swapsWith value (some (.Subscript o i tpos)) pos.line X.env = pure false := by rfl) :
    PS X (.Assign [.Subscript o i tpos] value pos) (tS X.K T W (sLPut fo fi fv)) := by
  refine ⟨fun pins s σ H D I h => ?_⟩
  obtain ⟨κ, st, env, c, a⟩ := h
  have a1 := AftS.bndd c a
  have key : tE X.K T W fv σ H fun v H1 => tE X.K T W fo σ H1 fun x H2 => tE X.K T W fi σ H2 fun y H3 => rSetL x y v H3 fun H4 => D.nx σ H4 := by
    refine ⟨κ, st, env, c, a1.bind.imp fun v st1 κ1 H1 s1 e1 a2 w rw' => ⟨κ1, st1, env, c.step s1 e1, a2.bind.imp fun dv st2 κ2 H2 s2 e2 a3 x rx => ⟨κ2, st2, env, (c.step s1 e1).step s2 e2, a3.bind.imp fun kv st3 κ3 H3 s3 e3 a4 y ry => ?_⟩⟩⟩
    unfold lputI at a4
    split at a4
    · rename_i cc ii yv
      cases q : st3[cc]? with
      | none => unfold celL at a4; rw [q] at a4; exact a4.elim
      | some oc =>
        cases oc with
        | none => unfold celL at a4; rw [q] at a4; exact a4.elim
        | some cl =>
          cases cl <;> first | (unfold celL at a4; rw [q] at a4; exact a4.elim) | skip
          rename_i l
          have a5 : After X.K T W σ κ3 H3 (bnd (optM (L2.ixN l.length ii)) (fun j => wr cc (.lst (l.set j yv)) (.d .non)) st3) (fun _ s κ H => AftS X.K T W κ H (.nx env s) D) := by
            unfold celL at a4
            rw [q] at a4
            exact a4
          obtain ⟨j, ej, a6⟩ := After.optd a5
          obtain ⟨pp, ex, hk, xs, hp, rl⟩ := e3.addr q (RepVal.step s3 _ _ rx)
          have hlen := RepL.length rl
          have sw : Step κ3 H3 κ3 (upd H3 pp (.lst (xs.set j w))) := Step.write hk
          have rw2 := e3.write (o := .lst (xs.set j w)) (c := .lst (l.set j yv)) hk ⟨_, upd_same, RepL.step sw _ _ (RepL.setD j rl (Rep.step s3 _ _ (Rep.step s2 _ _ rw')))⟩
          refine ⟨pp, xs, ii, j, ex, show y = V.int ii from ry, hp, by rw [← hlen]; exact ej, ?_⟩
          exact AftS.nxd ⟨rw2, (((c.env.step s1).step s2).step s3).step sw⟩ (a6 κ3 _ sw rw2)
    · exact a4.elim
  refine wpAny_Assign_Subscript (thn (hv.run pins s σ H _ I key) fun r s1 ⟨v, H1, I1, rv, q1⟩ => thn (ho.run pins s1 σ H1 _ I1 q1) fun u s2 ⟨x, H2, I2, rx, q2⟩ => thn (hi.run pins s2 σ H2 _ I2 q2) fun iv s3 ⟨y, H3, I3, ry, q3⟩ => ?_) hs
  exact thn (set_list pins s3 σ H3 x y v u iv r _ I3 rx ry rv q3) fun _ s4 ⟨H4, I4, q4⟩ => ⟨σ, H4, I4, q4⟩
/-! ### lists added, the sum is written -/
def rV2 (K : PySem.W.Frag) (T : Tb) (k : D → D → M Val) : R2 := fun x y H Q => ∃ κ st dx dy σ W, Rel K T κ H st ∧ Now K T κ H dx x ∧ Now K T κ H dy y ∧ After K T W σ κ H (k dx dy st) (PV K T Q)
theorem o_addL : OpR X (binaryOp .Add) (rV2 X.K T addL2) := by
  intro pins s σ H x y v u Q I rx ry ⟨κ, st, dx, dy, σ', W, e, n1, n2, a⟩
  cases dx <;> first | exact a.elim | skip
  cases dy <;> first | exact a.elim | skip
  rename_i l m
  have a : After X.K T W σ' κ H ((if l.length + m.length < 1000000 then newCell (.lst (l ++ m)) else stk : M Val) st) (PV X.K T Q) := a
  obtain ⟨hz, a⟩ := stuck_ifB a
  have hz' : l.length + m.length ≤ sizeLine := million hz
  obtain ⟨p, xs, rfl, hs, r1⟩ := n1
  obtain ⟨q, ys, rfl, ht, r2⟩ := n2
  obtain ⟨_, its, n, q1, e1⟩ := Inv.exact I hs
  obtain ⟨_, its2, n2, q2, e2⟩ := Inv.exact I ht
  cases rx
  cases ry
  have hz2 : its.toArray.size + its2.toArray.size ≤ sizeLine := by rw [List.size_toArray, List.size_toArray, ← q1.length, ← q2.length, ← RepL.length r1, ← RepL.length r2]; exact hz'
  refine PySem.P.add_list e1 e2 ?_ hz2
  have hp : H s.heap.objs.size = none := I.hok.fresh (Nat.le_refl _)
  refine ⟨.ref s.heap.objs.size, _, I.laid (t' := s.toks) (fun b o z => Heap.get?_push_of_some _ z) (Nat.le_refl _) ?_, rfl, mkL_ok (keep := true) e (r1.app r2) hp a⟩
  refine ⟨by rw [List.length_append, ← RepL.length r1, ← RepL.length r2]; exact hz', its ++ its2, 0, q1.append q2, ?_⟩
  have ea : its.toArray ++ its2.toArray = (its ++ its2).toArray := by simp
  rw [ea]
  exact Heap.get?_push_size _ rfl
theorem After.opV {k : D → D → M Val} {v u : Val} {x y : V} {Q : VK} (e : Rel X.K T κ H st) (r1 : RepVal X.K T κ H v x) (r2 : RepVal X.K T κ H u y) (h : After X.K T W σ κ H (bnd (snap v) (fun x => bnd (snap u) fun y => k x y) st) (PV X.K T Q)) : rV2 X.K T k x y H Q := by
  obtain ⟨dx, n1, h, _⟩ := After.snapd e r1 h
  obtain ⟨dy, n2, h, _⟩ := After.snapd e r2 h
  exact ⟨κ, st, dx, dy, σ, W, e, n1, n2, h⟩
theorem e_addL (ha : PE X a (tE X.K T W f)) (hb : PE X b (tE X.K T W g)) : PE X (.BinOp a .Add b pos) (tE X.K T W (dAddL f g)) := pe_imp (pe_op o_addL ha hb) fun σ H Q q =>
  tE_mono (tE2 (h := fun v u => bnd (snap v) fun x => bnd (snap u) fun y => addL2 x y) q) fun x H1 q1 => tE_mono q1 fun y H2 ⟨κ, st, env, v, u, c, r1, r2, a⟩ => After.opV c.rel r1 r2 a
/-! ### range of three -/
theorem wk_rangeC {lo c : Int} {n : Nat} {κ : Kap} {H : Hp} : Wk X.K T (Itc lo c n) κ H (.its (uptoC lo c n)) := by
  intro κ' H' st' s' r' i o hcu
  have hcu : (uptoC lo c n)[i]? = o := Option.some.inj hcu
  unfold uptoC at hcu
  rw [List.getElem?_map] at hcu
  by_cases hi : i < n
  · rw [List.getElem?_range hi] at hcu
    subst hcu
    exact ⟨hi, fun y H2 ⟨e, h⟩ => by subst e; exact ⟨Step.refl _ _, r', h⟩⟩
  · rw [List.getElem?_eq_none (by simpa using hi)] at hcu
    subst hcu
    exact Nat.le_of_not_lt hi
theorem rng3_ok {us : List V} {vs : List Val} {R : It → Hp → Prop} (r : Rel X.K T κ H st) (ru : RepVals X.K T κ H vs us) (h : After X.K T W σ κ H (rng3 vs st) fun s _ κ' H' => ∀ J, Wk X.K T J κ' H' s → R J H') :
    ∃ (i j c : Int) (n : Nat), us = [.int i, .int j, .int c] ∧ RgC i j c n ∧ R (Itc i c n) H := by
  unfold rng3 at h
  split at h
  · rename_i i j c
    obtain ⟨x, t, e1, e2, y, t2, e3, e4, z, t3, e5, e6, e7⟩ := ru
    cases (show _ = [] from e7)
    obtain ⟨hj, b⟩ := stuck_ifB h
    refine ⟨i, j, c, (Builtin.Range.rangeSize i j c).toNat, by rw [e1, e2, e3, e4, e5, e6], ⟨hj.1, hj.2.1, hj.2.2.1, ?_⟩, After.retd r b _ wk_rangeC⟩
    rw [Int.toNat_of_nonneg hj.2.2.2]
  · exact h.elim
theorem i_range3 {a b c : Expr} {tg : Expr} (hg : Gl X "range") (hm : X.mg "range" = none) {p : Pos} (ha : PA X [a, b, c] (tA X.K T W da)) (hs : starEach [a, b, c] X.env = (false, eval a X.env) :: starEach [b, c] X.env := by rfl) (hpl : (backTo pos (starEach [b, c] X.env)).any (·.1) = false := by rfl) :
    PI X tg (.Call (.Name "range" p) [a, b, c] [] pos) (tI X.K T W (iRange3 da)) :=
  pi_imp (pi_range3 hg hm ha hs hpl) fun σ H R h => tA_mono (tA_tI h) fun us H1 ⟨κ, st, vs, r, ru, b⟩ => rng3_ok r ru b
/-! ### max, min of two ints -/
theorem c_max2 (hc : X.calm = true) : CallR X (.builtin "max") (rB X.K T bMax2) := by
  intro pins s σ H us vs Q I r ⟨κ, st, ws, σ', W, er, rv, a⟩
  unfold bMax2 at a
  split at a
  · rename_i i j
    obtain ⟨x, t, e1, e2, y, t2, e3, e4, e5⟩ := rv
    cases (show _ = [] from e5)
    exact call_max2 hc pins s σ H us vs Q I r ⟨i, j, by rw [e1, e2, e3, e4], After.retd er a _ rfl⟩
  · exact a.elim
theorem c_min2 (hc : X.calm = true) : CallR X (.builtin "min") (rB X.K T bMin2) := by
  intro pins s σ H us vs Q I r ⟨κ, st, ws, σ', W, er, rv, a⟩
  unfold bMin2 at a
  split at a
  · rename_i i j
    obtain ⟨x, t, e1, e2, y, t2, e3, e4, e5⟩ := rv
    cases (show _ = [] from e5)
    exact call_min2 hc pins s σ H us vs Q I r ⟨i, j, by rw [e1, e2, e3, e4], After.retd er a _ rfl⟩
  · exact a.elim
theorem e_max2 (hc : X.calm = true) (hg : Gl X "max") (hm : X.mg "max" = none) (ha : PA X (e :: es) (tA X.K T W da)) (he : starEach (e :: es) X.env = (false, eval e X.env) :: starEach es X.env := by rfl) (hpl : (backTo pos (starEach es X.env)).any (·.1) = false := by rfl) :
    PE X (.Call (.Name "max" p) (e :: es) [] pos) (tE X.K T W (dB bMax2 da)) := e_blt (c_max2 hc) hg hm (by rfl) ha (by decide) (by decide) he hpl
theorem e_min2 (hc : X.calm = true) (hg : Gl X "min") (hm : X.mg "min" = none) (ha : PA X (e :: es) (tA X.K T W da)) (he : starEach (e :: es) X.env = (false, eval e X.env) :: starEach es X.env := by rfl) (hpl : (backTo pos (starEach es X.env)).any (·.1) = false := by rfl) :
    PE X (.Call (.Name "min" p) (e :: es) [] pos) (tE X.K T W (dB bMin2 da)) := e_blt (c_min2 hc) hg hm (by rfl) ha (by decide) (by decide) he hpl
/-! ### a key popped, get of one -/
def popD : Val → Val → M Val
  | .cell c, .d x => fun st => match st[c]? with
    | some (some (.dic false l)) => if isKey false x = true then (match look x l with
      | some r => .ok (.d r) (st.set c (some (.dic false (drp x l))))
      | none => .stuck) else .stuck
    | _ => .stuck
  | _, _ => stk
def dPop1 (fd fk : DE) : DE := fun e => bnd (fd e) fun d => bnd (isTg isDc d) fun _ => bnd (fk e) fun k => popD d k
def dGet1 (fd fk : DE) : DE := fun e => bnd (fd e) fun d => bnd (isTg isDc d) fun _ => bnd (fk e) fun k => getD d k (.d .non)
theorem RepPK.drop {K : PySem.W.Frag} {k : D} {kk : Key} (hk : keyK k = some kk) : ∀ {l : List (D × D)} {kvs : List (Key × V)}, RepPK K T κ H l kvs → RepPK K T κ H (drp k l) (dropK kvs kk)
  | [], _, h => by cases (show _ = [] from h); exact rfl
  | (j, d) :: r, _, ⟨jj, y, t, e, hj, h1, h2⟩ => by
    subst e
    have q := keyEq_K hj hk
    have ih := RepPK.drop hk h2
    unfold drp dropK at ih ⊢
    by_cases z : jj = kk
    · rw [decide_eq_true z] at q
      rw [List.filter_cons_of_neg (by simp [q]), List.filter_cons_of_neg (by simp [z])]
      exact ih
    · rw [decide_eq_false z] at q
      rw [List.filter_cons_of_pos (by simp [q]), List.filter_cons_of_pos (by simp [z])]
      exact ⟨jj, y, _, rfl, hj, h1, ih⟩
theorem e_dpop1 {d i : Expr} {fd fk : DE} {apos cpos : Pos} (hd : PE X d (tE X.K T W fd)) (hi : PE X i (tE X.K T W fk)) (m : M1 X d "pop" apos i cpos) : PE X (.Call (.Attribute d "pop" apos) [i] [] cpos) (tE X.K T W (dPop1 fd fk)) :=
  pe_imp (pe_dpop1 hd hi m) fun σ H Q ⟨κ, st, env, c, a⟩ => ⟨κ, st, env, c, a.bind.imp fun v st1 κ1 H1 s1 e1 a1 x rx => by
    obtain ⟨t, tg, hp, a2⟩ := isTg_ok e1 rx a1
    cases t <;> first | cases hp; done | skip
    obtain ⟨p, ex, hx⟩ := tg
    subst ex
    refine ⟨p, rfl, hx, κ1, st1, env, c.step s1 e1, a2.bind.imp fun k st2 κ2 H2 s2 e2 a3 y ry => ?_⟩
    unfold popD at a3
    split at a3
    · rename_i cc kx
      cases q : st2[cc]? with
      | none => rw [q] at a3; exact a3.elim
      | some oc =>
        rw [q] at a3
        cases oc with
        | none => exact a3.elim
        | some cl =>
          cases cl <;> first | exact a3.elim | skip
          rename_i t l
          cases t <;> first | exact a3.elim | skip
          have a3 : After (α := Val) X.K T W σ κ2 H2 (if isKey false kx = true then (match look kx l with | some r => Rs.ok (Val.d r) (st2.set cc (some (.dic false (drp kx l)))) | none => Rs.stuck) else Rs.stuck) (PV X.K T Q) := a3
          by_cases hk : isKey false kx = true
          · rw [if_pos hk] at a3
            obtain ⟨kk, ek⟩ := atom_key hk
            obtain ⟨pp, ex, hkk, kvs, hp2, rl⟩ := e2.addr q (RepVal.step s2 _ _ rx)
            cases ex
            have ro := rl.look (k := kx) ek
            have ry' : y = kV kk := by cases kx <;> cases ek <;> exact ry
            cases ql : look kx l with
            | none => rw [ql] at a3; exact a3.elim
            | some r =>
              rw [ql] at a3 ro
              cases qv : valV kvs kk with
              | none => rw [qv] at ro; exact ro.elim
              | some rv =>
                rw [qv] at ro
                have sw : Step κ2 H2 κ2 (upd H2 p (.dK (dropK kvs kk))) := Step.write hkk
                have rw2 := e2.write (o := .dK (dropK kvs kk)) (c := .dic false (drp kx l)) hkk ⟨_, upd_same, RepPK.step sw _ _ (rl.drop ek)⟩
                exact ⟨kvs, kk, rv, hp2, ry', qv, a3 κ2 _ sw rw2 rv (Rep.step sw _ _ ro)⟩
          · rw [if_neg hk] at a3; exact a3.elim
    · exact a3.elim⟩
theorem e_get1 {d i : Expr} {fd fk : DE} {apos cpos : Pos} (hu : X.A.units + 1 < cLine) (hd : PE X d (tE X.K T W fd)) (hi : PE X i (tE X.K T W fk)) (m : M1 X d "get" apos i cpos) : PE X (.Call (.Attribute d "get" apos) [i] [] cpos) (tE X.K T W (dGet1 fd fk)) :=
  pe_imp (pe_dget1 hu hd hi m) fun σ H Q ⟨κ, st, env, c, a⟩ => ⟨κ, st, env, c, a.bind.imp fun v st1 κ1 H1 s1 e1 a1 x rx => by
    obtain ⟨t, tg, hp, a2⟩ := isTg_ok e1 rx a1
    cases t <;> first | cases hp; done | skip
    obtain ⟨p, ex, hx⟩ := tg
    subst ex
    refine ⟨p, rfl, hx, κ1, st1, env, c.step s1 e1, a2.bind.imp fun k st2 κ2 H2 s2 e2 a4 y ry => ?_⟩
    obtain ⟨dd, n, a5, _⟩ := After.snapd e2 (RepVal.step s2 _ _ rx) a4
    obtain ⟨kk, n2, a6, _⟩ := After.snapd e2 ry a5
    obtain ⟨t, l, el⟩ : ∃ t l, dd = .dic t l := by
      cases dd <;> first | exact a6.elim | exact ⟨_, _, rfl⟩
    subst el
    obtain ⟨hk, a6⟩ := stuck_ifB a6
    obtain ⟨p2, o, ep, g, ro⟩ := now_get n n2 hk
    cases ep
    refine ⟨o, g, ?_⟩
    rcases look_opt ro with ⟨r, xr, e4, e5, rr⟩ | ⟨e4, e5⟩
    · rw [e4] at a6
      rw [e5]
      exact After.retd e2 a6 xr rr
    · rw [e4] at a6
      rw [e5]
      exact After.retd e2 a6 .non rfl⟩
end
section
variable {X : Cx} {T : Tb} {W : WX} {pos : Pos} {a b c : Expr} {t u v : DT} {tc ta tb : TT}
def tIfTT (t ta tb : TT) : TT := fun σ H Q => t σ H fun c H1 => if c = true then ta σ H1 Q else tb σ H1 Q
theorem pt_ifE (hc : PT X c tc) (ha : PT X a ta) (hb : PT X b tb) : PT X (.IfExp c a b pos) (tIfTT tc ta tb) := by
  refine ⟨fun pins s σ H Q I h => ?_⟩
  refine isTrue_IfExp (thn (hc.run pins s σ H _ I h) fun d s1 ⟨H1, I1, q1⟩ => ?_)
  cases d with
  | true => exact ha.run pins s1 σ H1 Q I1 q1
  | false => exact hb.run pins s1 σ H1 Q I1 q1
def tIfE (t u v : DT) : DT := fun e => bnd (t e) fun b => if b then u e else v e
theorem t_ifE (hc : PT X c (tT X.K T W t)) (ha : PT X a (tT X.K T W u)) (hb : PT X b (tT X.K T W v)) : PT X (.IfExp c a b pos) (tT X.K T W (tIfE t u v)) := pt_imp (pt_ifE hc ha hb) fun σ H Q ⟨κ, st, env, c, a⟩ =>
  ⟨κ, st, env, c, a.bind.imp fun r st1 κ1 H1 s1 e1 a1 => by
    cases r with
    | true => exact ⟨κ1, st1, env, c.step s1 e1, a1⟩
    | false => exact ⟨κ1, st1, env, c.step s1 e1, a1⟩⟩
end
theorem fn_stuck {P : Program} {w : World} {K : PySem.W.Frag} {T : Tb} {mg : Str → Option Value} {base : Heap} {CX : CXT} {k : Nat} {f : Addr} {ks : List Str} : FnG P w K T mg base CX k f ks (fun _ _ => stk) :=
  fun A outer s H us ws vs zs Q E _ _ _ _ _ ⟨_, _, _, _, _, _, _, a⟩ => a.elim
end Fb
/-! FbBB -/
/-! FbBB: comprehensions with two fors. -/
namespace Fb
open PySem PySem.Spec PyProof.Rows L2
def addLL (src1 : DI) (g1 : DG) (t1 : DT) (el : DE) (vs1 : List Nat) (k : Nat) : DEnv → M Unit := fun e => bnd (noX (src1 e)) fun s => lcD g1 t1 (addL el k) (fuelOf s) s 0 (wipeD e vs1)
def dLc2 (src : DI) (g : DG) (t : DT) (src1 : DI) (g1 : DG) (t1 : DT) (el : DE) (vs vs1 : List Nat) (keep : Bool) : DE := comp src g t (.lst []) (addLL src1 g1 t1 el vs1) vs (finL keep)
section
variable {X : Cx} {T : Tb} {W : WX} {pos : Pos} {elt tg iter tg1 iter1 : Expr} {ifs ifs1 : List Expr} {scope : Scope} {own : List (Str × Nat)} {src src1 : DI} {g g1 : DG} {t t1 : DT} {el : DE} {is is1 vs1 : List Nat}
theorem lc2_read {vs : List Nat} {keep : Bool} {σ : L2.St} {H : Hp} {Q : VK} (his : ∀ i ∈ is, i ∈ vs) (his1 : ∀ i ∈ is1, i ∈ vs1) (hv : ∀ i ∈ vs1, i ∈ vs)
    (h : tI X.K T W src σ H fun J H1 => ∃ κ1 st1 env s, Cf X.K T σ κ1 H1 st1 env ∧ Wk X.K T J κ1 H1 s ∧ After X.K T W σ κ1 H1 (bnd (lcD g t (addLL src1 g1 t1 el vs1 κ1.length) (fuelOf s) s 0 (wipeD env vs)) (fun _ => finL keep κ1.length) (st1 ++ [some (.lst [])])) (PV X.K T Q)) :
    tLc2 (tI X.K T W src) (tG X.K T is g) (tT X.K T WF t) (tI X.K T WF src1) (tG X.K T is1 g1) (tT X.K T WF t1) (tE X.K T WF el) vs vs1 σ H Q := tI_mono h fun J H1 hJ D hD => by
  obtain ⟨κ1, st1, env, s, c1, wk, a⟩ := hJ
  have s2 : Step κ1 H1 (κ1 ++ [some D]) (upd H1 D (.lst [])) := Step.grow c1.rel hD
  have r2 := c1.rel.grow (D := D) (o := .lst []) (c := .lst []) hD ⟨[], upd_same, rfl⟩
  refine ⟨fun i m H' => ∃ κ' st', Step (κ1 ++ [some D]) (upd H1 D (.lst [])) κ' H' ∧ Cf X.K T (L2.wipe σ vs) κ' H' st' (wipeD env vs) ∧
    After X.K T W σ κ1 H1 (bnd (lcD g t (addLL src1 g1 t1 el vs1 κ1.length) m s i (wipeD env vs)) (fun _ => finL keep κ1.length) st') (PV X.K T Q),
    ⟨fuelOf s, _, _, Step.refl _ _, ⟨r2, (c1.env.step s2).wipe vs⟩, a⟩, ?_⟩
  rintro i m H' ⟨κ', st', t', c', a'⟩
  cases m with
  | zero => exact a'.elim
  | succ m =>
    rcases lc_turn wk (s2.trans t') c' a' with ⟨stop, a2⟩ | ⟨go, d, e2, q2, hy, a2⟩
    · exact .inl ⟨stop, finL_ok hD t' (s2.trans t') c'.rel a2⟩
    · refine .inr ⟨go, fun H3 => ∃ κ3 st3, Step (κ1 ++ [some D]) (upd H1 D (.lst [])) κ3 H3 ∧ Cf X.K T (L2.wipe σ vs) κ3 H3 st3 (wipeD env vs) ∧
        After X.K T W σ κ1 H1 (bnd (lcD g t (addLL src1 g1 t1 el vs1 κ1.length) m s (i + 1) (wipeD env vs)) (fun _ => finL keep κ1.length) st3) (PV X.K T Q), fun H3 h3 => ⟨m, Nat.lt_succ_self m, h3⟩, fun x H2 y => ?_⟩
      obtain ⟨sy, ry, rx⟩ := hy x H2 y
      have c2 := c'.step sy ry
      refine ⟨κ', st', _, d, e2, c2, rx, q2, fun σ2 c3 hw => ⟨by rw [hw vs his, wipe_wipe], ?_⟩⟩
      refine ⟨κ', st', e2, c3, (noXd a2).imp fun b st3 κ3 H3 s3 r3 a3 => ?_⟩
      cases b with
      | false => exact iteF ⟨κ3, st3, (t'.trans sy).trans s3, c2.step s3 r3, a3⟩
      | true =>
        have a3 : After X.K T W σ κ1 H1 (bnd (bnd (noX (src1 e2)) fun s1 => lcD g1 t1 (addL el κ1.length) (fuelOf s1) s1 0 (wipeD e2 vs1)) (fun _ => bnd (lcD g t (addLL src1 g1 t1 el vs1 κ1.length) m s (i + 1) (wipeD env vs)) (fun _ => finL keep κ1.length)) st3) (PV X.K T Q) := a3
        rw [bnd_assoc] at a3
        have t3 := (t'.trans sy).trans s3
        have c4 := c3.step s3 r3
        have cw := c2.step s3 r3
        refine iteT ⟨κ3, st3, e2, c4, (noXd a3).imp fun s1 st4 κ4 H4 s4 r4 a4 J1 wk1 => ?_⟩
        refine ⟨fun j k H5 => ∃ κ5 st5, Step κ4 H4 κ5 H5 ∧ Rel X.K T κ5 H5 st5 ∧
          After X.K T W σ κ1 H1 (bnd (lcD g1 t1 (addL el κ1.length) k s1 j (wipeD e2 vs1)) (fun _ => bnd (lcD g t (addLL src1 g1 t1 el vs1 κ1.length) m s (i + 1) (wipeD env vs)) (fun _ => finL keep κ1.length)) st5) (PV X.K T Q),
          ⟨fuelOf s1, κ4, st4, Step.refl _ _, r4, a4⟩, ?_⟩
        rintro j k H5 ⟨κ5, st5, t5, r5, a5⟩
        have c5 : Cf X.K T (L2.wipe σ2 vs1) κ5 H5 st5 (wipeD e2 vs1) := ⟨r5, ((c4.env.step s4).step t5).wipe vs1⟩
        have cw5 : Cf X.K T (L2.wipe σ vs) κ5 H5 st5 (wipeD env vs) := (cw.step s4 r4).step t5 r5
        have t35 := (t3.trans s4).trans t5
        cases k with
        | zero => exact a5.elim
        | succ k =>
          rcases lc_turn wk1 t5 c5 a5 with ⟨stop1, a6⟩ | ⟨go1, d1, e3, q3, hy1, a6⟩
          · exact .inl ⟨stop1, κ5, st5, t35, cw5, a6⟩
          · refine .inr ⟨go1, fun H6 => ∃ κ6 st6, Step κ4 H4 κ6 H6 ∧ Rel X.K T κ6 H6 st6 ∧
              After X.K T W σ κ1 H1 (bnd (lcD g1 t1 (addL el κ1.length) k s1 (j + 1) (wipeD e2 vs1)) (fun _ => bnd (lcD g t (addLL src1 g1 t1 el vs1 κ1.length) m s (i + 1) (wipeD env vs)) (fun _ => finL keep κ1.length)) st6) (PV X.K T Q), fun H6 h6 => ⟨k, Nat.lt_succ_self k, h6⟩, fun x1 H6 y1 => ?_⟩
            obtain ⟨sy1, ry1, rx1⟩ := hy1 x1 H6 y1
            have c6 := c5.step sy1 ry1
            refine ⟨κ5, st5, _, d1, e3, c6, rx1, q3, fun σ3 c7 hw1 => ⟨by rw [hw1 vs1 his1, wipe_wipe], ?_⟩⟩
            refine ⟨κ5, st5, e3, c7, (noXd a6).imp fun b1 st7 κ7 H7 s7 r7 a7 => ?_⟩
            have t7 := (t5.trans sy1).trans s7
            cases b1 with
            | false => exact iteF ⟨κ7, st7, t7, r7, a7⟩
            | true =>
              have a7 : After X.K T W σ κ1 H1 (bnd (bnd (noX (el e3)) fun v => bnd (plain v) fun x => pushC κ1.length x) (fun _ => bnd (lcD g1 t1 (addL el κ1.length) k s1 (j + 1) (wipeD e2 vs1)) (fun _ => bnd (lcD g t (addLL src1 g1 t1 el vs1 κ1.length) m s (i + 1) (wipeD env vs)) (fun _ => finL keep κ1.length))) st7) (PV X.K T Q) := a7
              rw [bnd_assoc] at a7
              refine iteT ⟨κ7, st7, e3, c7.step s7 r7, (noXd a7).imp fun v st8 κ8 H8 s8 r8 a8 y ry => ?_⟩
              rw [bnd_assoc] at a8
              obtain ⟨z, ez, a9⟩ := plainB a8
              subst ez
              have t8 := t7.trans s8
              have t38 := (t3.trans s4).trans t8
              cases q : st8[κ1.length]? with
              | none => rw [bnd_stk (by unfold pushC; rw [q])] at a9; exact a9.elim
              | some o =>
                cases o with
                | none => rw [bnd_stk (by unfold pushC; rw [q])] at a9; exact a9.elim
                | some cl =>
                  cases cl with
                  | ins _ _ => rw [bnd_stk (by unfold pushC; rw [q])] at a9; exact a9.elim
                  | dic _ _ => rw [bnd_stk (by unfold pushC; rw [q])] at a9; exact a9.elim
                  | lst l =>
                    by_cases hl : l.length < 1000000
                    · rw [bnd_ok (a := ()) (s' := st8.set κ1.length (some (.lst (l ++ [z])))) (by unfold pushC; rw [q]; exact if_pos hl)] at a9
                      obtain ⟨ad, ex, hk, xs, h1, h2⟩ := r8.addr q t38.self
                      cases ex
                      have sw : Step κ8 H8 κ8 (upd H8 D (.lst (xs ++ [y]))) := Step.write hk
                      have rw8 := r8.write (o := .lst (xs ++ [y])) (c := .lst (l ++ [z])) hk ⟨_, upd_same, RepL.app (RepL.step sw _ _ h2) ⟨y, [], rfl, Rep.step sw _ _ ry, rfl⟩⟩
                      exact ⟨xs, h1, by rw [← RepL.length h2, sizeLine_eq]; omega, κ8, _, t8.trans sw, rw8, a9⟩
                    · rw [bnd_stk (by unfold pushC; rw [q]; exact if_neg hl)] at a9; exact a9.elim
/-- [el for .. in .. if .. for .. in .. if ..] -/
theorem e_lc2 {keep : Bool} (hc : X.calm = true) (hN : X.N.Nodup) (hi : PI X tg iter (tI X.K T W src)) (ok : BlkOk X.N X.env.scope scope own) (hv : ∀ i ∈ vs1, i ∈ own.map (·.2)) (his : ∀ i ∈ is, i ∈ own.map (·.2)) (his1 : ∀ i ∈ is1, i ∈ vs1)
    (hg : ∀ (s : Shared) (H : Hp) (C : Addr) (cl : List (Str × Addr)) (fp : List Addr), PG (X.blk s H scope (compEnvC scope cl C X.env) fp) tg (tG X.K T is g))
    (ht : ∀ (s : Shared) (H : Hp) (C : Addr) (cl : List (Str × Addr)) (fp : List Addr), PTs (X.blk s H scope (compEnvC scope cl C X.env) fp) ifs (tT X.K T WF t))
    (hi1 : ∀ (s : Shared) (H : Hp) (C : Addr) (cl : List (Str × Addr)) (fp : List Addr), PI (X.blk s H scope (compEnvC scope cl C X.env) fp) tg1 iter1 (tI X.K T WF src1))
    (hg1 : ∀ (s : Shared) (H : Hp) (C : Addr) (cl : List (Str × Addr)) (fp : List Addr), PG (X.blk s H scope (compEnvC scope cl C X.env) fp) tg1 (tG X.K T is1 g1))
    (ht1 : ∀ (s : Shared) (H : Hp) (C : Addr) (cl : List (Str × Addr)) (fp : List Addr), PTs (X.blk s H scope (compEnvC scope cl C X.env) fp) ifs1 (tT X.K T WF t1))
    (he : ∀ (s : Shared) (H : Hp) (C : Addr) (cl : List (Str × Addr)) (fp : List Addr), PE (X.blk s H scope (compEnvC scope cl C X.env) fp) elt (tE X.K T WF el))
    (hs : ∀ x, foldedSetIterable iter X.env x = pure x := by intro _; rfl) (hs1 : ∀ env x, foldedSetIterable iter1 env x = pure x := by intro _ _; rfl) :
    PE X (.ListComp elt [⟨tg, iter, ifs, 0⟩, ⟨tg1, iter1, ifs1, 0⟩] scope pos) (tE X.K T W (dLc2 src g t src1 g1 t1 el (own.map (·.2)) vs1 keep)) :=
  pe_imp (pe_lc2 hc hN hi ok hv hg ht hi1 hg1 ht1 he hs hs1) fun σ H Q h => lc2_read his his1 hv (comp_start h)
/-- name = [el for .. in .. if .. for .. in .. if ..], the name a plain local, on one line -/
theorem s_setLc2 {i : Nat} {y : Str} {py spos : Pos} {keep : Bool} (hc : X.calm = true) (hN : X.N.Nodup) (hy : X.N[i]? = some y) (hyl : X.env.scope.names.lookup y = some .local)
    (hsw : swapsWith (.ListComp elt [⟨tg, iter, ifs, 0⟩, ⟨tg1, iter1, ifs1, 0⟩] scope pos) (some (.Name y py)) spos.line X.env = pure true) (hi : PI X tg iter (tI X.K T W src)) (ok : BlkOk X.N X.env.scope scope own) (hv : ∀ i ∈ vs1, i ∈ own.map (·.2)) (his : ∀ i ∈ is, i ∈ own.map (·.2)) (his1 : ∀ i ∈ is1, i ∈ vs1)
    (hg : ∀ (s : Shared) (H : Hp) (C : Addr) (cl : List (Str × Addr)) (fp : List Addr), PG (X.blk s H scope (compEnvC scope cl C X.env) fp) tg (tG X.K T is g))
    (ht : ∀ (s : Shared) (H : Hp) (C : Addr) (cl : List (Str × Addr)) (fp : List Addr), PTs (X.blk s H scope (compEnvC scope cl C X.env) fp) ifs (tT X.K T WF t))
    (hi1 : ∀ (s : Shared) (H : Hp) (C : Addr) (cl : List (Str × Addr)) (fp : List Addr), PI (X.blk s H scope (compEnvC scope cl C X.env) fp) tg1 iter1 (tI X.K T WF src1))
    (hg1 : ∀ (s : Shared) (H : Hp) (C : Addr) (cl : List (Str × Addr)) (fp : List Addr), PG (X.blk s H scope (compEnvC scope cl C X.env) fp) tg1 (tG X.K T is1 g1))
    (ht1 : ∀ (s : Shared) (H : Hp) (C : Addr) (cl : List (Str × Addr)) (fp : List Addr), PTs (X.blk s H scope (compEnvC scope cl C X.env) fp) ifs1 (tT X.K T WF t1))
    (he : ∀ (s : Shared) (H : Hp) (C : Addr) (cl : List (Str × Addr)) (fp : List Addr), PE (X.blk s H scope (compEnvC scope cl C X.env) fp) elt (tE X.K T WF el))
    (hs : ∀ x, foldedSetIterable iter X.env x = pure x := by intro _; rfl) (hs1 : ∀ env x, foldedSetIterable iter1 env x = pure x := by intro _ _; rfl) :
    PS X (.Assign [.Name y py] (.ListComp elt [⟨tg, iter, ifs, 0⟩, ⟨tg1, iter1, ifs1, 0⟩] scope pos) spos) (tS X.K T W (sSet i (dLc2 src g t src1 g1 t1 el (own.map (·.2)) vs1 keep))) :=
  ps_imp (ps_setLc2 hc hN hy hyl hsw hi ok hv hg ht hi1 hg1 ht1 he hs hs1) fun D σ H ⟨κ, st, env, c, a⟩ => lc2_read (Q := fun u H1 => D.nx (σ.set i (some u)) H1) his his1 hv (comp_start (fin := finL keep) ⟨κ, st, env, c, (AftS.bndd c a).imp fun v st1 κ1 H1 t1 e1 a1 u r => AftS.nxd ⟨e1, (c.env.step t1).set i r⟩ a1⟩)
end
end Fb
/-! FbCC -/
/-! FbCC: a list of anything beside []. -/
namespace Fb
open PySem PySem.Spec PyProof.Rows L2
def neN : D → D → M Bool
  | .lst l, .lst [] => ret (!l.isEmpty)
  | _, _ => stk
def tNeN (f g : DE) : DT := fun e => bnd (f e) fun v => bnd (g e) fun u => opB neN v u
section
variable {X : Cx} {T : Tb} {W : WX} {a b : Expr} {f g : DE} {pos : Pos} {k : Nat}
theorem o_neN (hu : X.A.units + 64 < cLine) : OpR X (compareOp .NotEq) (rC X.K T neN) := by
  intro pins s σ H x y v u Q I rx ry ⟨κ, st, d, e, σ', W, er, n1, n2, a⟩
  cases d <;> first | exact a.elim | skip
  rename_i l
  cases e <;> first | exact a.elim | skip
  rename_i m
  cases m with
  | cons _ _ => exact a.elim
  | nil =>
    have fin := After.retd er a
    obtain ⟨p, xs, rfl, hp, r1⟩ := n1
    obtain ⟨q, ys, rfl, hq, r2⟩ := n2
    cases rx
    cases ry
    cases (show ys = [] from r2)
    obtain ⟨its, rv, ⟨o, n, ho, hc, _, hd⟩, _⟩ := I.list (.inl (.inl hp))
    obtain ⟨its2, rv2, ⟨o2, n2, ho2, hc2, _, hd2⟩, _⟩ := I.list (.inl (.inl hq))
    cases rv2
    have hl : s.heap.IsList p its.toArray := ⟨o, ho, hc, n, hd⟩
    have hl2 : s.heap.IsList q ([] : List Value).toArray := ⟨o2, ho2, hc2, n2, hd2⟩
    cases l with
    | nil =>
      cases (show xs = [] from r1)
      cases rv
      exact SeqAt.RcNeAt.lists (e := fun _ => true) hl hl2 rfl (by omega) (fun j h1 _ => absurd h1 (Nat.not_lt_zero j)) _ _ _ _ (fin_bl I fin rfl)
    | cons d r =>
      obtain ⟨x1, t1, ex, _, _⟩ := r1
      subst ex
      cases rv with
      | cons _ _ => exact SeqAt.RcNeAt.lists_lengths hl hl2 rfl (by omega) _ _ _ _ (fin_bl I fin rfl)
theorem t_neN (hr : Room k X.A) (ha : PE X a (tE X.K T W f)) (hb : PE X b (tE X.K T W g)) : PT X (.Compare a [.NotEq] [b] pos) (tT X.K T W (tNeN f g)) := t_cmp (o_neN hr.units) ha hb (nomark _)
end
end Fb
/-! FbDD -/
/-! FbDD: errors raised and caught. -/
namespace Fb
open PySem PySem.Spec PyProof.Rows L2
/-- raise X('..'), X an own class without own __init__ -/
def sThr (c : Nat) : DS := fun e s => .exc ⟨c, []⟩ e s
/-- a suite that lets nothing out -/
def calmR (r : Rt) : Rt := match r with
  | .exc _ _ _ => .stuck
  | r => r
def sTry (p : DS) (m : Nat → Option Bool) (q : DS) : DS := fun e s => match p e s with
  | .exc x e' s' => match m x.c with
    | some true => calmR (q e' s')
    | some false => .exc x e' s'
    | none => .stuck
  | r => r
section
variable {X : Cx} {T : Tb} {W : WX} {pos pos' : Pos} {p q : DS}
theorem s_raise0 {C : Addr} {bmB : List Value} {B newId initId : String} {x msg : Str} {ns : List Str} {i j : Nat} {np p2 : Pos} (hc : X.calm = true) (tk : Takes X W) (F : ExcBaseFacts B newId initId bmB) (qe : PySem.W.excIn X.K C bmB newId = true) (gC : X.mg x = some (.ref C)) (kC : PySem.W.keepIn X.K (.ref C) = true)
    (r : PySem.W.subIn X.K (.ref C) (.type "BaseException") = some true ∧ PySem.W.typeIn X.K (.ref C) = some (.type "type")) (hx : T.xt i = some (C, ns)) (hg : Gl X x := by rfl) (hdb : (x == ("__debug__" : Str)) = false := by decide) :
    PS X (.Raise (some (.Call (.Name x np) [.Constant (.str msg) j p2] [] pos)) none pos') (tS X.K T W (sThr i)) := ps_imp (ps_raise hc tk (pmk_own F qe gC kC (raises_own r.1 r.2) hg hdb)) fun D σ H ⟨κ, st, env, c, a⟩ =>
  a σ (.ref C) none κ H (Step.refl _ _) c ⟨C, ns, hx, rfl, rfl⟩
theorem calm_aft {K : PySem.W.Frag} {κ : Kap} {H : Hp} {r : Rt} {D : Ends} (h : AftS K T W κ H (calmR r) D) : AftS K T WF κ H r D := by
  cases r with
  | nx e s => exact h
  | bk e s => exact h
  | ct e s => exact h
  | rt v s => exact h
  | exc x e s => exact h.elim
  | stuck => exact h
theorem s_try {x : Str} {c : Value} {body suite : List Stmt} {b₀ : Stmt} {np : Pos} {m : Nat → Option Bool} (hs : X.stack = X.env :: X.outer) (hf : X.env.frame = some X.env.locals) (hc : Names X x c) (tk : Takes X W)
    (hm : ∀ (i : Nat) (C : Addr) (ns : List Str) (b : Bool), T.xt i = some (C, ns) → m i = some b → PySem.W.exmOne X.K (.ref C) c = some b)
    (hb : ∀ (W' : WX) (pn : List (Addr × Obj)) (xe : Value → Shared → Prop), Takes (X.tr pn xe) W' → PassesOwn (model X.prog X.w) X.A X.env xe → PSs (X.tr pn xe) body (tS X.K T W' p))
    (hsu : ∀ (a : Addr) (oe : Obj) (cls : Value) (d : Option Addr) (pn : List (Addr × Obj)), PSs (X.suite a ((a, oe) :: pn)) (b₀ :: suite) (tS X.K T WF q)) :
    PS X (.Try body [.ExceptHandler (some (.Name x np)) none (b₀ :: suite) pos'] [] [] pos) (tS X.K T W (sTry p m q)) :=
  ps_imp (ps_try_only (tb := fun W' => tS X.K T W' p) (ts := fun _ _ _ => tS X.K T WF q) (Wout := W) hs hf hc tk hb fun a oe cls d pn _ _ => hsu a oe cls d pn) fun D σ H ⟨κ, st, env, c1, a⟩ => by
    refine ⟨κ, st, env, c1, ?_⟩
    unfold sTry at a
    cases z : p env st with
    | nx e s => rw [z] at a; exact a
    | bk e s => rw [z] at a; exact a
    | ct e s => rw [z] at a; exact a
    | rt v s => rw [z] at a; exact a
    | stuck => rw [z] at a; exact a
    | exc ex e' s' =>
      rw [z] at a
      intro σ' cls d κ' H' t cf rx
      obtain ⟨C, ns, hxt, ec, rest⟩ := id rx
      cases y : m ex.c with
      | none => dsimp only at a; rw [y] at a; exact a.elim
      | some b =>
        dsimp only at a
        rw [y] at a
        subst ec
        refine ⟨b, hm _ _ _ _ hxt y, fun eb a0 _ => ?_, fun eb => ?_⟩
        · subst eb
          exact ⟨κ', s', e', cf, calm_aft (AftS.since t a)⟩
        · subst eb
          exact a σ' _ d κ' H' t cf rx
end
end Fb
/-! FpD -/
/-! FpD: what the program's defs do, as plain functions; printed by gen.py. -/
namespace Pg
open PySem PySem.Spec PyProof.Rows L2 Fb
def fd_aims : Nat → Option Nat
  | 0 => some 1
  | _ => none
@[simp] theorem fd_aims_0 : fd_aims 0 = some 1 := rfl
def fd_barred : Nat → Option Nat
  | 4 => some 1
  | _ => none
@[simp] theorem fd_barred_4 : fd_barred 4 = some 1 := rfl
def fd_begin : Nat → Option Nat
  | 1 => some 1
  | _ => none
@[simp] theorem fd_begin_1 : fd_begin 1 = some 1 := rfl
def fd_board : Nat → Option Nat
  | 4 => some 0
  | _ => none
@[simp] theorem fd_board_4 : fd_board 4 = some 0 := rfl
def fd_fees : Nat → Option Nat
  | 1 => some 2
  | _ => none
@[simp] theorem fd_fees_1 : fd_fees 1 = some 2 := rfl
def fd_fields : Nat → Option Nat
  | 5 => some 0
  | _ => none
@[simp] theorem fd_fields_5 : fd_fields 5 = some 0 := rfl
def fd_forbidden : Nat → Option Nat
  | 2 => some 0
  | _ => none
@[simp] theorem fd_forbidden_2 : fd_forbidden 2 = some 0 := rfl
def fd_is_goal : Nat → Option Nat
  | 0 => some 2
  | _ => none
@[simp] theorem fd_is_goal_0 : fd_is_goal 0 = some 2 := rfl
def fd_lines : Nat → Option Nat
  | 1 => some 0
  | _ => none
@[simp] theorem fd_lines_1 : fd_lines 1 = some 0 := rfl
def fd_prices : Nat → Option Nat
  | 5 => some 2
  | _ => none
@[simp] theorem fd_prices_5 : fd_prices 5 = some 2 := rfl
def fd_ranks : Nat → Option Nat
  | 2 => some 1
  | _ => none
@[simp] theorem fd_ranks_2 : fd_ranks 2 = some 1 := rfl
def fd_side : Nat → Option Nat
  | 0 => some 0
  | _ => none
@[simp] theorem fd_side_0 : fd_side 0 = some 0 := rfl
def fd_starts : Nat → Option Nat
  | 5 => some 1
  | _ => none
@[simp] theorem fd_starts_5 : fd_starts 5 = some 1 := rfl
def fd_steps : Nat → Option Nat
  | 4 => some 2
  | _ => none
@[simp] theorem fd_steps_4 : fd_steps 4 = some 2 := rfl
def fd_traps : Nat → Option Nat
  | 2 => some 2
  | 3 => some 0
  | _ => none
@[simp] theorem fd_traps_2 : fd_traps 2 = some 2 := rfl
@[simp] theorem fd_traps_3 : fd_traps 3 = some 0 := rfl
def q_int : Tg → Option Bool
  | .int => some true
  | .bl => some true
  | .ins _ => none
  | _ => some false
@[simp] theorem q_int_non : q_int .non = some false := rfl
@[simp] theorem q_int_bl : q_int .bl = some true := rfl
@[simp] theorem q_int_int : q_int .int = some true := rfl
@[simp] theorem q_int_str : q_int .str = some false := rfl
@[simp] theorem q_int_tup : q_int .tup = some false := rfl
@[simp] theorem q_int_lst : q_int .lst = some false := rfl
@[simp] theorem q_int_dic : q_int .dic = some false := rfl
def q_str : Tg → Option Bool
  | .str => some true
  | .ins _ => none
  | _ => some false
@[simp] theorem q_str_non : q_str .non = some false := rfl
@[simp] theorem q_str_bl : q_str .bl = some false := rfl
@[simp] theorem q_str_int : q_str .int = some false := rfl
@[simp] theorem q_str_str : q_str .str = some true := rfl
@[simp] theorem q_str_tup : q_str .tup = some false := rfl
@[simp] theorem q_str_lst : q_str .lst = some false := rfl
@[simp] theorem q_str_dic : q_str .dic = some false := rfl
def q_bool : Tg → Option Bool
  | .bl => some true
  | .ins _ => none
  | _ => some false
@[simp] theorem q_bool_non : q_bool .non = some false := rfl
@[simp] theorem q_bool_bl : q_bool .bl = some true := rfl
@[simp] theorem q_bool_int : q_bool .int = some false := rfl
@[simp] theorem q_bool_str : q_bool .str = some false := rfl
@[simp] theorem q_bool_tup : q_bool .tup = some false := rfl
@[simp] theorem q_bool_lst : q_bool .lst = some false := rfl
@[simp] theorem q_bool_dic : q_bool .dic = some false := rfl
def q_tuple : Tg → Option Bool
  | .tup => some true
  | .ins _ => none
  | _ => some false
@[simp] theorem q_tuple_non : q_tuple .non = some false := rfl
@[simp] theorem q_tuple_bl : q_tuple .bl = some false := rfl
@[simp] theorem q_tuple_int : q_tuple .int = some false := rfl
@[simp] theorem q_tuple_str : q_tuple .str = some false := rfl
@[simp] theorem q_tuple_tup : q_tuple .tup = some true := rfl
@[simp] theorem q_tuple_lst : q_tuple .lst = some false := rfl
@[simp] theorem q_tuple_dic : q_tuple .dic = some false := rfl
def q_dict : Tg → Option Bool
  | .dic => some true
  | .ins _ => none
  | _ => some false
@[simp] theorem q_dict_non : q_dict .non = some false := rfl
@[simp] theorem q_dict_bl : q_dict .bl = some false := rfl
@[simp] theorem q_dict_int : q_dict .int = some false := rfl
@[simp] theorem q_dict_str : q_dict .str = some false := rfl
@[simp] theorem q_dict_tup : q_dict .tup = some false := rfl
@[simp] theorem q_dict_lst : q_dict .lst = some false := rfl
@[simp] theorem q_dict_dic : q_dict .dic = some true := rfl
def q_list : Tg → Option Bool
  | .lst => some true
  | .ins _ => none
  | _ => some false
@[simp] theorem q_list_non : q_list .non = some false := rfl
@[simp] theorem q_list_bl : q_list .bl = some false := rfl
@[simp] theorem q_list_int : q_list .int = some false := rfl
@[simp] theorem q_list_str : q_list .str = some false := rfl
@[simp] theorem q_list_tup : q_list .tup = some false := rfl
@[simp] theorem q_list_lst : q_list .lst = some true := rfl
@[simp] theorem q_list_dic : q_list .dic = some false := rfl
def q_Field : Tg → Option Bool
  | .ins c => if 0 ≤ c ∧ c < 2 then some (c == 0) else none
  | _ => some false
@[simp] theorem q_Field_non : q_Field .non = some false := rfl
@[simp] theorem q_Field_bl : q_Field .bl = some false := rfl
@[simp] theorem q_Field_int : q_Field .int = some false := rfl
@[simp] theorem q_Field_str : q_Field .str = some false := rfl
@[simp] theorem q_Field_tup : q_Field .tup = some false := rfl
@[simp] theorem q_Field_lst : q_Field .lst = some false := rfl
@[simp] theorem q_Field_dic : q_Field .dic = some false := rfl
@[simp] theorem q_Field_0 : q_Field (.ins 0) = some true := rfl
@[simp] theorem q_Field_1 : q_Field (.ins 1) = some false := rfl
def q_Board : Tg → Option Bool
  | .ins c => if 0 ≤ c ∧ c < 2 then some (c == 1) else none
  | _ => some false
@[simp] theorem q_Board_non : q_Board .non = some false := rfl
@[simp] theorem q_Board_bl : q_Board .bl = some false := rfl
@[simp] theorem q_Board_int : q_Board .int = some false := rfl
@[simp] theorem q_Board_str : q_Board .str = some false := rfl
@[simp] theorem q_Board_tup : q_Board .tup = some false := rfl
@[simp] theorem q_Board_lst : q_Board .lst = some false := rfl
@[simp] theorem q_Board_dic : q_Board .dic = some false := rfl
@[simp] theorem q_Board_0 : q_Board (.ins 0) = some false := rfl
@[simp] theorem q_Board_1 : q_Board (.ins 1) = some true := rfl
def q_Forbidding : Tg → Option Bool
  | .ins c => if 2 ≤ c ∧ c < 4 then some (c == 2) else none
  | _ => some false
@[simp] theorem q_Forbidding_non : q_Forbidding .non = some false := rfl
@[simp] theorem q_Forbidding_bl : q_Forbidding .bl = some false := rfl
@[simp] theorem q_Forbidding_int : q_Forbidding .int = some false := rfl
@[simp] theorem q_Forbidding_str : q_Forbidding .str = some false := rfl
@[simp] theorem q_Forbidding_tup : q_Forbidding .tup = some false := rfl
@[simp] theorem q_Forbidding_lst : q_Forbidding .lst = some false := rfl
@[simp] theorem q_Forbidding_dic : q_Forbidding .dic = some false := rfl
@[simp] theorem q_Forbidding_2 : q_Forbidding (.ins 2) = some true := rfl
@[simp] theorem q_Forbidding_3 : q_Forbidding (.ins 3) = some false := rfl
def q_NoForbidding : Tg → Option Bool
  | .ins c => if 2 ≤ c ∧ c < 4 then some (c == 3) else none
  | _ => some false
@[simp] theorem q_NoForbidding_non : q_NoForbidding .non = some false := rfl
@[simp] theorem q_NoForbidding_bl : q_NoForbidding .bl = some false := rfl
@[simp] theorem q_NoForbidding_int : q_NoForbidding .int = some false := rfl
@[simp] theorem q_NoForbidding_str : q_NoForbidding .str = some false := rfl
@[simp] theorem q_NoForbidding_tup : q_NoForbidding .tup = some false := rfl
@[simp] theorem q_NoForbidding_lst : q_NoForbidding .lst = some false := rfl
@[simp] theorem q_NoForbidding_dic : q_NoForbidding .dic = some false := rfl
@[simp] theorem q_NoForbidding_2 : q_NoForbidding (.ins 2) = some false := rfl
@[simp] theorem q_NoForbidding_3 : q_NoForbidding (.ins 3) = some true := rfl
def dS_is_integer : DS := sRet (vAnd (dIsi q_int (dVar 0)) (vAnd (vNot (dIsi q_bool (dVar 0))) (tV (tChainD .le .le (dVar 1) (dVar 0) (dVar 2)))))
def G_is_integer : Gn := posG (fnD 3 3 dS_is_integer) []
def dS_is_name : DS := sRet (vAnd (dIsi q_str (dVar 0)) (vAnd (tV (tChainD .le .le (dCon (.int 1)) (dB bLen (dCons (dVar 0) (dNil))) (dCon (.int 8)))) (dB bAll (dCons (dLc (iSeq (dVar 0)) (tgN 1) (tYs) (tV (tCmp .inn (dVar 1) (dCon (.str "abcdefghijklmnopqrstuvwxyz")))) [1] false) (dNil)))))
def G_is_name : Gn := posG (fnD 1 2 dS_is_name) []
def dS_is_field_of : DS := sRet (vAnd (dIsi q_Field (dVar 1)) (dB bAll (dCons (dLc (iSeq (dFld fd_aims (dVar 1))) (tgN 2) (tYs) (tV (tCmp .inn (dVar 2) (dVar 0))) [2] false) (dNil))))
def G_is_field_of : Gn := posG (fnD 2 3 dS_is_field_of) []
def dS_is_move : DS := sSeq (sIf (tOr (tNot (vT (dIsi q_tuple (dVar 1)))) (tOr (tCmp .ne (dB bLen (dCons (dVar 1) (dNil))) (dCon (.int 2))) (tNot (vT (dB bAll (dCons (dLc (iSeq (dVar 1)) (tgN 2) (tYs) (dIsi q_str (dVar 2)) [2] false) (dNil))))))) (sRet (dCon (.bl false))) (sPass)) (sRet (vAnd (tV (tCmp .inn (dIx (dVar 1) (dCon (.int 0))) (dVar 0))) (tV (tCmp .inn (dIx (dVar 1) (dCon (.int 1))) (dFld fd_aims (dIx (dVar 0) (dIx (dVar 1) (dCon (.int 0)))))))))
def G_is_move : Gn := posG (fnD 2 3 dS_is_move) []
def dS_are_prices : DS := sSeq (sIf (tOr (tNot (vT (dIsi q_dict (dVar 1)))) (tCmp .gt (dB bLen (dCons (dVar 1) (dNil))) (dCon (.int 6)))) (sRet (dCon (.bl false))) (sPass)) (sRet (dB bAll (dCons (dLc (iItems (dVar 1)) (tgT [2, 3]) (tYs) (vAnd (dCallG G_is_move (dCons (dVar 0) (dCons (dVar 2) (dNil)))) (dCallG G_is_integer (dCons (dVar 3) (dCons (dCon (.int 1)) (dCons (dCon (.int 9)) (dNil)))))) [2, 3] false) (dNil))))
def G_are_prices : Gn := posG (fnD 2 4 dS_are_prices) []
def dS_is_set : DS := sSeq (sIf (tOr (tNot (vT (dIsi q_tuple (dVar 1)))) (tNot (vT (dB bAll (dCons (dLc (iSeq (dVar 1)) (tgN 2) (tYs) (dCallG G_is_move (dCons (dFld fd_lines (dVar 0)) (dCons (dVar 2) (dNil)))) [2] false) (dNil)))))) (sRet (dCon (.bl false))) (sPass)) (sRet (tV (tCmp .eq (dB (bList false) (dCons (dVar 1) (dNil))) (dLc (iSeq (dFld fd_fees (dVar 0))) (tgN 2) (tCmp .inn (dVar 2) (dVar 1)) (dVar 2) [2] false))))
def G_is_set : Gn := posG (fnD 2 3 dS_is_set) []
def dS_ways : DS := sRet (dLc (iSeq (dFld fd_aims (dIx (dFld fd_lines (dVar 0)) (dVar 1)))) (tgN 3) (tCmp .nin (dTup (dCons (dVar 1) (dCons (dVar 3) (dNil)))) (dVar 2)) (dVar 3) [3] false)
def G_ways : Gn := posG (fnD 3 4 dS_ways) []
def L_Boardu__initu__0 : DS := sIf (tOr (tNot (vT (dCallG G_is_name (dCons (dVar 4) (dNil))))) (tNot (vT (dCallG G_is_field_of (dCons (dVar 1) (dCons (dVar 5) (dNil))))))) (sNever) (sPass)
def dS_Boardu__initu_ : DS := sSeq (sIf (tOr (tNot (vT (dIsi q_dict (dVar 1)))) (tNot (tChainD .le .le (dCon (.int 1)) (dB bLen (dCons (dVar 1) (dNil))) (dCon (.int 8))))) (sNever) (sPass)) (sSeq (forS (iItems (dVar 1)) (tgT [4, 5]) (L_Boardu__initu__0)) (sSeq (sIf (tOr (tNot (vT (dIsi q_str (dVar 2)))) (tCmp .nin (dVar 2) (dVar 1))) (sNever) (sPass)) (sSeq (sIf (tNot (vT (dCallG G_are_prices (dCons (dVar 1) (dCons (dVar 3) (dNil)))))) (sNever) (sPass)) (sSeq (sAttr fd_lines (dVar 0) (dDc false (iItems (dVar 1)) (tgT [4, 5]) (tYs) (dVar 4) (dVar 5) [4, 5])) (sSeq (sAttr fd_begin (dVar 0) (dVar 2)) (sAttr fd_fees (dVar 0) (dDc true (iItems (dVar 3)) (tgT [6, 7]) (tYs) (dVar 6) (dVar 7) [6, 7])))))))
def G_Boardu__initu_ : Gn := posG (fnD 4 8 dS_Boardu__initu_) []
def dS_Fieldu__initu_ : DS := sSeq (sIf (tNot (vT (dCallG G_is_integer (dCons (dVar 1) (dCons (dCon (.int 1)) (dCons (dCon (.int 2)) (dNil))))))) (sNever) (sPass)) (sSeq (sIf (tOr (tNot (vT (dB bAll (dCons (dLc (iSeq (dVar 3)) (tgN 4) (tYs) (dCallG G_is_name (dCons (dVar 4) (dNil))) [4] false) (dNil))))) (tCmp .ne (dB bLen (dCons (dDc false (iSeq (dVar 3)) (tgN 4) (tYs) (dVar 4) (dCon (.bl true)) [4]) (dNil))) (dB bLen (dCons (dVar 3) (dNil))))) (sNever) (sPass)) (sSeq (sIf (tNot (vT (dIsi q_bool (dVar 2)))) (sNever) (sPass)) (sSeq (sAttr fd_side (dVar 0) (dVar 1)) (sSeq (sAttr fd_aims (dVar 0) (dVar 3)) (sAttr fd_is_goal (dVar 0) (dVar 2))))))
def G_Fieldu__initu_ : Gn := starG 5 dS_Fieldu__initu_ false
def L_without_0 : DS := sSeq (sSet 5 (dCallG G_ways (dCons (dVar 0) (dCons (dVar 3) (dCons (dVar 1) (dNil)))))) (sPut (dVar 2) (dVar 3) (dMakeK false 3 0 G_Fieldu__initu_ (dCons (dFld fd_side (dVar 4)) (dStar (dVar 5) (dNil))) (dCons (dFld fd_is_goal (dVar 4)) (dNil))))
def dS_without : DS := sSeq (sIf (tNot (vT (dCallG G_is_set (dCons (dVar 0) (dCons (dVar 1) (dNil)))))) (sNever) (sPass)) (sSeq (sSet 2 (dDic0 false)) (sSeq (forS (iItems (dFld fd_lines (dVar 0))) (tgT [3, 4]) (L_without_0)) (sSeq (sFrz 2) (sRet (dMakeE false 3 1 G_Boardu__initu_ (dCons (dVar 2) (dCons (dFld fd_begin (dVar 0)) (dCons (dDc true (iItems (dFld fd_fees (dVar 0))) (tgT [6, 7]) (tCmp .nin (dVar 6) (dVar 1)) (dVar 6) (dVar 7) [6, 7]) (dNil)))))))))
def G_without : Gn := posG (fnD 2 8 dS_without) []
def L_check_play_0 : DS := sSeq (sSet 5 (dIx (dVar 1) (dVar 3))) (sIf (tOr (vT (dFld fd_is_goal (dIx (dFld fd_lines (dVar 0)) (dVar 5)))) (tCmp .nin (dVar 4) (dCallG G_ways (dCons (dVar 0) (dCons (dVar 5) (dCons (dVar 2) (dNil))))))) (sNever) (sPass))
def dS_check_play : DS := sSeq (sIf (tNot (vT (dIsi q_tuple (dVar 1)))) (sNever) (sPass)) (sSeq (sIf (tOr (tCmp .eq (dVar 1) (dTup (dNil))) (tCmp .ne (dIx (dVar 1) (dCon (.int 0))) (dFld fd_begin (dVar 0)))) (sNever) (sPass)) (forS (iEnum (dCons (dSl2 (dVar 1) (oSome (dCon (.int 1))) (oNone)) (dNil))) (tgT [3, 4]) (L_check_play_0)))
def G_check_play : Gn := posG (fnD 3 6 dS_check_play) []
def dS_check_board : DS := sIf (tNot (vT (dIsi q_Board (dVar 0)))) (sNever) (sPass)
def G_check_board : Gn := posG (fnD 1 1 dS_check_board) []
def dS_check_set : DS := sSeq (sExpr (dCallG G_check_board (dCons (dVar 0) (dNil)))) (sIf (tNot (vT (dCallG G_is_set (dCons (dVar 0) (dCons (dVar 1) (dNil)))))) (sNever) (sPass))
def G_check_set : Gn := posG (fnD 2 2 dS_check_set) []
def dS_is_won_at_once : DS := sSeq (sSet 3 (dIx (dFld fd_lines (dVar 0)) (dVar 2))) (sRet (vOr (dFld fd_is_goal (dVar 3)) (vAnd (tV (tCmp .eq (dFld fd_side (dVar 3)) (dCon (.int 2)))) (tV (tCmp .eq (dCallG G_ways (dCons (dVar 0) (dCons (dVar 2) (dCons (dVar 1) (dNil))))) (dLst (dNil)))))))
def G_is_won_at_once : Gn := posG (fnD 3 4 dS_is_won_at_once) []
def dS_leads_on : DS := sSeq (sSet 4 (dLc (iSeq (dCallG G_ways (dCons (dVar 0) (dCons (dVar 3) (dCons (dVar 1) (dNil)))))) (tgN 5) (tYs) (tV (tCmp .inn (dVar 5) (dVar 2))) [5] false)) (sRet (dIf (tCmp .eq (dFld fd_side (dIx (dFld fd_lines (dVar 0)) (dVar 3))) (dCon (.int 1))) (dB bAny (dCons (dVar 4) (dNil))) (dB bAll (dCons (dVar 4) (dNil)))))
def G_leads_on : Gn := posG (fnD 4 6 dS_leads_on) []
def T_distances_of_0 : DT := tCmp .ne (dVar 4) (dLst (dNil))
def L_distances_of_1 : DS := sSeq (sExpr (dUpd (dVar 2) (dCons (dDc false (iSeq (dVar 4)) (tgN 5) (tYs) (dVar 5) (dVar 3) [5]) (dNil)))) (sSeq (sInc 3 1) (sSet 4 (dLc (iSeq (dFld fd_lines (dVar 0))) (tgN 5) (tAnd (tCmp .nin (dVar 5) (dVar 2)) (vT (dCallG G_leads_on (dCons (dVar 0) (dCons (dVar 1) (dCons (dVar 2) (dCons (dVar 5) (dNil)))))))) (dVar 5) [5] false)))
def dS_distances_of : DS := sSeq (sPar [2, 3] (dCons (dDic0 false) (dCons (dCon (.int 0)) (dNil)))) (sSeq (sSet 4 (dLc (iSeq (dFld fd_lines (dVar 0))) (tgN 5) (vT (dCallG G_is_won_at_once (dCons (dVar 0) (dCons (dVar 1) (dCons (dVar 5) (dNil)))))) (dVar 5) [5] false)) (sSeq (whileD (T_distances_of_0) (L_distances_of_1) 1000) (sSeq (sFrz 2) (sRet (dVar 2)))))
def G_distances_of : Gn := posG (fnD 2 6 dS_distances_of) []
def dS_distances : DS := sSeq (sExpr (dCallG G_check_set (dCons (dVar 0) (dCons (dVar 1) (dNil))))) (sSeq (sSet 2 (dCallG G_distances_of (dCons (dVar 0) (dCons (dVar 1) (dNil))))) (sRet (dDc false (iSeq (dFld fd_lines (dVar 0))) (tgN 3) (tYs) (dVar 3) (dGet2 (dVar 2) (dVar 3) (dCon .non)) [3])))
def G_distances : Gn := posG (fnD 2 4 dS_distances) []
def dS_wins : DS := sRet (tV (tCmp .inn (dFld fd_begin (dVar 0)) (dCallG G_distances_of (dCons (dVar 0) (dCons (dVar 1) (dNil))))))
def G_wins : Gn := posG (fnD 2 2 dS_wins) []
def dS_is_winning : DS := sSeq (sExpr (dCallG G_check_set (dCons (dVar 0) (dCons (dVar 1) (dNil))))) (sRet (dCallG G_wins (dCons (dVar 0) (dCons (dVar 1) (dNil)))))
def G_is_winning : Gn := posG (fnD 2 2 dS_is_winning) []
def dS_is_right_rank : DS := sSeq (sSet 4 (dIx (dFld fd_lines (dVar 0)) (dVar 3))) (sSeq (sIf (vT (dFld fd_is_goal (dVar 4))) (sRet (dCon (.bl true))) (sPass)) (sSeq (sSet 5 (dLc (iSeq (dCallG G_ways (dCons (dVar 0) (dCons (dVar 3) (dCons (dVar 1) (dNil)))))) (tgN 6) (tYs) (vAnd (tV (tCmp .inn (dVar 6) (dVar 2))) (tV (tCmp .lt (dIx (dVar 2) (dVar 6)) (dIx (dVar 2) (dVar 3))))) [6] false)) (sRet (dIf (tCmp .eq (dFld fd_side (dVar 4)) (dCon (.int 1))) (dB bAny (dCons (dVar 5) (dNil))) (dB bAll (dCons (dVar 5) (dNil)))))))
def G_is_right_rank : Gn := posG (fnD 4 7 dS_is_right_rank) []
def dS_are_right_ranks : DS := sRet (vAnd (tV (tCmp .inn (dFld fd_begin (dVar 0)) (dVar 2))) (dB bAll (dCons (dLc (iSeq (dVar 2)) (tgN 3) (tYs) (dCallG G_is_right_rank (dCons (dVar 0) (dCons (dVar 1) (dCons (dVar 2) (dCons (dVar 3) (dNil)))))) [3] false) (dNil))))
def G_are_right_ranks : Gn := posG (fnD 3 4 dS_are_right_ranks) []
def L_are_ranks_0 : DS := sSeq (sIf (tOr (tNot (vT (dIsi q_str (dVar 3)))) (tCmp .nin (dVar 3) (dFld fd_lines (dVar 0)))) (sNever) (sPass)) (sIf (tOr (tNot (vT (dIsi q_int (dVar 4)))) (tOr (vT (dIsi q_bool (dVar 4))) (tCmp .lt (dVar 4) (dCon (.int 0))))) (sNever) (sPass))
def dS_are_ranks : DS := sSeq (sExpr (dCallG G_check_set (dCons (dVar 0) (dCons (dVar 1) (dNil))))) (sSeq (sIf (tNot (vT (dIsi q_dict (dVar 2)))) (sNever) (sPass)) (sSeq (forS (iItems (dVar 2)) (tgT [3, 4]) (L_are_ranks_0)) (sRet (dCallG G_are_right_ranks (dCons (dVar 0) (dCons (dVar 1) (dCons (dVar 2) (dNil))))))))
def G_are_ranks : Gn := posG (fnD 3 5 dS_are_ranks) []
def L_check_trap_0 : DS := sSeq (sIf (tOr (tNot (vT (dIsi q_str (dVar 2)))) (tCmp .nin (dVar 2) (dFld fd_lines (dVar 0)))) (sNever) (sPass)) (sIf (tAnd (tCmp .notN (dVar 3) (dCon .non)) (tOr (tNot (vT (dIsi q_str (dVar 3)))) (tCmp .nin (dVar 3) (dFld fd_lines (dVar 0))))) (sNever) (sPass))
def dS_check_trap : DS := sSeq (sIf (tNot (vT (dIsi q_dict (dVar 1)))) (sNever) (sPass)) (forS (iItems (dVar 1)) (tgT [2, 3]) (L_check_trap_0))
def G_check_trap : Gn := posG (fnD 2 4 dS_check_trap) []
def L_is_right_trap_0 : DS := sSeq (sSet 4 (dIx (dFld fd_lines (dVar 0)) (dVar 2))) (sSeq (sIf (tOr (vT (dFld fd_is_goal (dVar 4))) (tCmp .ne (tV (tCmp .eq (dFld fd_side (dVar 4)) (dCon (.int 1)))) (tV (tCmp .isN (dVar 3) (dCon .non))))) (sRet (dCon (.bl false))) (sPass)) (sIf (tAnd (tCmp .notN (dVar 3) (dCon .non)) (tOr (tCmp .nin (dVar 3) (dFld fd_aims (dVar 4))) (tCmp .nin (dVar 3) (dVar 1)))) (sRet (dCon (.bl false))) (sPass)))
def dS_is_right_trap : DS := sSeq (sIf (tCmp .nin (dFld fd_begin (dVar 0)) (dVar 1)) (sRet (dCon (.bl false))) (sPass)) (sSeq (forS (iItems (dVar 1)) (tgT [2, 3]) (L_is_right_trap_0)) (sRet (dCon (.bl true))))
def G_is_right_trap : Gn := posG (fnD 2 5 dS_is_right_trap) []
def dS_is_trap : DS := sSeq (sExpr (dCallG G_check_board (dCons (dVar 0) (dNil)))) (sSeq (sExpr (dCallG G_check_trap (dCons (dVar 0) (dCons (dVar 1) (dNil))))) (sRet (dCallG G_is_right_trap (dCons (dVar 0) (dCons (dVar 1) (dNil))))))
def G_is_trap : Gn := posG (fnD 2 2 dS_is_trap) []
def L_holds_against_0 : DS := sIf (tCmp .notN (dVar 4) (dCon .non)) (sIf (tCmp .inn (dTup (dCons (dVar 3) (dCons (dVar 4) (dNil)))) (dVar 1)) (sRet (dCon (.bl false))) (sPass)) (sIf (tNot (vT (dB bAll (dCons (dLc (iSeq (dCallG G_ways (dCons (dVar 0) (dCons (dVar 3) (dCons (dVar 1) (dNil)))))) (tgN 5) (tYs) (tV (tCmp .inn (dVar 5) (dVar 2))) [5] false) (dNil))))) (sRet (dCon (.bl false))) (sPass))
def dS_holds_against : DS := sSeq (forS (iItems (dVar 2)) (tgT [3, 4]) (L_holds_against_0)) (sRet (dCon (.bl true)))
def G_holds_against : Gn := posG (fnD 3 6 dS_holds_against) []
def dS_holds : DS := sSeq (sExpr (dCallG G_check_set (dCons (dVar 0) (dCons (dVar 1) (dNil))))) (sSeq (sExpr (dCallG G_check_trap (dCons (dVar 0) (dCons (dVar 2) (dNil))))) (sRet (vAnd (dCallG G_is_right_trap (dCons (dVar 0) (dCons (dVar 2) (dNil)))) (dCallG G_holds_against (dCons (dVar 0) (dCons (dVar 1) (dCons (dVar 2) (dNil))))))))
def G_holds : Gn := posG (fnD 3 3 dS_holds) []
def T_trap_of_0 : DT := tCmp .ne (dVar 4) (dLst (dNil))
def L_trap_of_1 : DS := sSeq (sSet 5 (dMth mPop (dVar 4) dNil)) (sIf (tCmp .nin (dVar 5) (dVar 3)) (sSeq (sSet 6 (dLc (iSeq (dCallG G_ways (dCons (dVar 0) (dCons (dVar 5) (dCons (dVar 1) (dNil)))))) (tgN 7) (tCmp .nin (dVar 7) (dVar 2)) (dVar 7) [7] false)) (sSeq (sPut (dVar 3) (dVar 5) (dIf (tCmp .eq (dFld fd_side (dIx (dFld fd_lines (dVar 0)) (dVar 5))) (dCon (.int 1))) (dCon .non) (dIx (dVar 6) (dCon (.int 0))))) (sExpr (dMth mExtend (dVar 4) (dCons (dIf (tCmp .eq (dFld fd_side (dIx (dFld fd_lines (dVar 0)) (dVar 5))) (dCon (.int 1))) (dVar 6) (dSl2 (dVar 6) (oNone) (oSome (dCon (.int 1))))) (dNil)))))) (sPass))
def dS_trap_of : DS := sSeq (sSet 2 (dCallG G_distances_of (dCons (dVar 0) (dCons (dVar 1) (dNil))))) (sSeq (sPar [3, 4] (dCons (dDic0 false) (dCons (dLstL (dCons (dFld fd_begin (dVar 0)) (dNil))) (dNil)))) (sSeq (whileD (T_trap_of_0) (L_trap_of_1) 1000) (sSeq (sFrz 3) (sRet (dVar 3)))))
def G_trap_of : Gn := posG (fnD 2 8 dS_trap_of) []
def dS_trap : DS := sSeq (sExpr (dCallG G_check_set (dCons (dVar 0) (dCons (dVar 1) (dNil))))) (sRet (dIf (vT (dCallG G_wins (dCons (dVar 0) (dCons (dVar 1) (dNil))))) (dCon .non) (dCallG G_trap_of (dCons (dVar 0) (dCons (dVar 1) (dNil))))))
def G_trap : Gn := posG (fnD 2 2 dS_trap) []
def L_all_sets_0 : DS := sSeq (sSet 6 (dIf (tCmp .ne (dVar 5) (dTup (dNil))) (dBin .add (dMth mIndex (dVar 1) (dCons (dIx (dVar 5) (dNeg (dCon (.int 1)))) (dNil))) (dCon (.int 1))) (dCon (.int 0)))) (sExpr (dMth mExtend (dVar 4) (dCons (dLc (iSeq (dSl2 (dVar 1) (oSome (dVar 6)) (oNone))) (tgN 7) (tYs) (dTup (dStar (dVar 5) (dCons (dVar 7) (dNil)))) [7] false) (dNil))))
def T_all_sets_1 : DT := tCmp .ne (dVar 3) (dLst (dNil))
def L_all_sets_2 : DS := sSeq (sSet 4 (dLstL (dNil))) (sSeq (forS (iSeq (dVar 3)) (tgN 5) (L_all_sets_0)) (sSeq (sFrz 4) (sSeq (sExpr (dMth mExtend (dVar 2) (dCons (dVar 4) (dNil)))) (sSet 3 (dVar 4)))))
def dS_all_sets : DS := sSeq (sPar [1, 2] (dCons (dB (bList false) (dCons (dFld fd_fees (dVar 0)) (dNil))) (dCons (dLstL (dCons (dTup (dNil)) (dNil))) (dNil)))) (sSeq (sSet 3 (dLst (dCons (dTup (dNil)) (dNil)))) (sSeq (whileD (T_all_sets_1) (L_all_sets_2) 1000) (sSeq (sFrz 2) (sRet (dVar 2)))))
def G_all_sets : Gn := posG (fnD 1 8 dS_all_sets) []
def dS_cost_of : DS := sRet (dB bSum (dCons (dLc (iSeq (dVar 1)) (tgN 2) (tYs) (dIx (dFld fd_fees (dVar 0)) (dVar 2)) [2] false) (dNil)))
def G_cost_of : Gn := posG (fnD 2 3 dS_cost_of) []
def dS_set_cost : DS := sSeq (sExpr (dCallG G_check_set (dCons (dVar 0) (dCons (dVar 1) (dNil))))) (sRet (dCallG G_cost_of (dCons (dVar 0) (dCons (dVar 1) (dNil)))))
def G_set_cost : Gn := posG (fnD 2 2 dS_set_cost) []
def L_parted_0 : DS := sIf (vT (dCallG G_wins (dCons (dVar 0) (dCons (dVar 3) (dNil))))) (sExpr (dMth mAppend (dVar 1) (dCons (dVar 3) (dNil)))) (sExpr (dMth mAppend (dVar 2) (dCons (dVar 3) (dNil))))
def dS_parted : DS := sSeq (sPar [1, 2] (dCons (dLstL (dNil)) (dCons (dLstL (dNil)) (dNil)))) (sSeq (forS (iSeq (dCallG G_all_sets (dCons (dVar 0) (dNil)))) (tgN 3) (L_parted_0)) (sSeq (sFrz 1) (sSeq (sFrz 2) (sRet (dTup (dCons (dVar 1) (dCons (dVar 2) (dNil))))))))
def G_parted : Gn := posG (fnD 1 4 dS_parted) []
def dS_winning_sets : DS := sSeq (sExpr (dCallG G_check_board (dCons (dVar 0) (dNil)))) (sRet (dIx (dCallG G_parted (dCons (dVar 0) (dNil))) (dCon (.int 0))))
def G_winning_sets : Gn := posG (fnD 1 1 dS_winning_sets) []
def dS_one_more : DS := sSeq (sSet 2 (dLc2 (iSeq (dVar 0)) (tgN 3) (tYs) (iSeq (dVar 1)) (tgN 4) (tCmp .eq (dB bLen (dCons (dVar 4) (dNil))) (dBin .add (dB bLen (dCons (dVar 3) (dNil))) (dCon (.int 1)))) (dTup (dCons (dVar 3) (dCons (dVar 4) (dNil)))) [3, 4] [4] false)) (sRet (dLc (iSeq (dVar 2)) (tgT [3, 4]) (vT (dB bAll (dCons (dLc (iSeq (dVar 3)) (tgN 5) (tYs) (tV (tCmp .inn (dVar 5) (dVar 4))) [5] false) (dNil)))) (dTup (dCons (dVar 3) (dCons (dVar 4) (dNil)))) [3, 4] false))
def G_one_more : Gn := posG (fnD 2 6 dS_one_more) []
def dS_breaches : DS := sSeq (sExpr (dCallG G_check_board (dCons (dVar 0) (dNil)))) (sSeq (sUnp [1, 2] (dCallG G_parted (dCons (dVar 0) (dNil)))) (sRet (dCallG G_one_more (dCons (dVar 1) (dCons (dVar 2) (dNil))))))
def G_breaches : Gn := posG (fnD 1 3 dS_breaches) []
def dS_rescues : DS := sSeq (sExpr (dCallG G_check_board (dCons (dVar 0) (dNil)))) (sSeq (sUnp [1, 2] (dCallG G_parted (dCons (dVar 0) (dNil)))) (sRet (dCallG G_one_more (dCons (dVar 2) (dCons (dVar 1) (dNil))))))
def G_rescues : Gn := posG (fnD 1 3 dS_rescues) []
def dS_copied : DS := sRet (dLc (iSeq (dVar 0)) (tgN 1) (tYs) (dDc false (iItems (dVar 1)) (tgT [2, 3]) (tYs) (dVar 2) (dVar 3) [2, 3]) [1] false)
def G_copied : Gn := posG (fnD 1 4 dS_copied) []
def dS_are_against : DS := sSeq (sIf (tNot (vT (dB bAll (dCons (dLc (iSeq (dVar 1)) (tgN 4) (tYs) (dCallG G_is_right_trap (dCons (dVar 0) (dCons (dVar 4) (dNil)))) [4] false) (dNil))))) (sRet (dCon (.bl false))) (sPass)) (sRet (dB bAll (dCons (dLc (iSeq (dVar 2)) (tgN 3) (tYs) (dB bAny (dCons (dLc (iSeq (dVar 1)) (tgN 4) (tYs) (dCallG G_holds_against (dCons (dVar 0) (dCons (dVar 3) (dCons (dVar 4) (dNil))))) [4] false) (dNil))) [3] false) (dNil))))
def G_are_against : Gn := posG (fnD 3 5 dS_are_against) []
def L_against_0 : DS := sIf (tNot (vT (dB bAny (dCons (dLc (iSeq (dVar 2)) (tgN 4) (tYs) (dCallG G_holds_against (dCons (dVar 0) (dCons (dVar 3) (dCons (dVar 4) (dNil))))) [4] false) (dNil))))) (sExpr (dMth mAppend (dVar 2) (dCons (dCallG G_trap_of (dCons (dVar 0) (dCons (dVar 3) (dNil)))) (dNil)))) (sPass)
def dS_against : DS := sSeq (sSet 2 (dLstL (dNil))) (sSeq (forS (iSeq (dVar 1)) (tgN 3) (L_against_0)) (sSeq (sFrz 2) (sRet (dVar 2))))
def G_against : Gn := posG (fnD 2 5 dS_against) []
def dS_Forbiddingu__initu_ : DS := sSeq (sAttr fd_forbidden (dVar 0) (dVar 1)) (sSeq (sAttr fd_ranks (dVar 0) (dDc false (iItems (dVar 2)) (tgT [4, 5]) (tYs) (dVar 4) (dVar 5) [4, 5])) (sAttr fd_traps (dVar 0) (dCallG G_copied (dCons (dVar 3) (dNil)))))
def G_Forbiddingu__initu_ : Gn := posG (fnD 4 6 dS_Forbiddingu__initu_) []
def dS_NoForbiddingu__initu_ : DS := sAttr fd_traps (dVar 0) (dCallG G_copied (dCons (dVar 1) (dNil)))
def G_NoForbiddingu__initu_ : Gn := posG (fnD 2 2 dS_NoForbiddingu__initu_) []
def L_cheapest_0 : DS := sIf (tOr (tCmp .isN (dVar 1) (dCon .non)) (tCmp .lt (dCallG G_cost_of (dCons (dVar 0) (dCons (dVar 2) (dNil)))) (dCallG G_cost_of (dCons (dVar 0) (dCons (dVar 1) (dNil)))))) (sSet 1 (dVar 2)) (sPass)
def dS_cheapest : DS := sSeq (sExpr (dCallG G_check_board (dCons (dVar 0) (dNil)))) (sSeq (sSet 1 (dCon .non)) (sSeq (forS (iSeq (dIx (dCallG G_parted (dCons (dVar 0) (dNil))) (dCon (.int 0)))) (tgN 2) (L_cheapest_0)) (sSeq (sIf (tCmp .isN (dVar 1) (dCon .non)) (sRet (dMakeE false 1 3 G_NoForbiddingu__initu_ (dCons (dCallG G_against (dCons (dVar 0) (dCons (dCallG G_all_sets (dCons (dVar 0) (dNil))) (dNil)))) (dNil)))) (sPass)) (sSeq (sSet 3 (dLc (iSeq (dCallG G_all_sets (dCons (dVar 0) (dNil)))) (tgN 4) (tCmp .lt (dCallG G_cost_of (dCons (dVar 0) (dCons (dVar 4) (dNil)))) (dCallG G_cost_of (dCons (dVar 0) (dCons (dVar 1) (dNil))))) (dVar 4) [4] false)) (sRet (dMakeE false 3 2 G_Forbiddingu__initu_ (dCons (dVar 1) (dCons (dCallG G_distances_of (dCons (dVar 0) (dCons (dVar 1) (dNil)))) (dCons (dCallG G_against (dCons (dVar 0) (dCons (dVar 3) (dNil)))) (dNil))))))))))
def G_cheapest : Gn := posG (fnD 1 5 dS_cheapest) []
def dS_is_forced : DS := sSeq (sPar [4, 5] (dCons (dIx (dFld fd_lines (dVar 0)) (dVar 3)) (dCons (dLc (iSeq (dCallG G_ways (dCons (dVar 0) (dCons (dVar 3) (dCons (dVar 1) (dNil)))))) (tgN 6) (tYs) (tV (tCmp .inn (dVar 6) (dVar 2))) [6] false) (dNil)))) (sRet (vOr (dFld fd_is_goal (dVar 4)) (dIf (tCmp .eq (dFld fd_side (dVar 4)) (dCon (.int 1))) (dB bAny (dCons (dVar 5) (dNil))) (dB bAll (dCons (dVar 5) (dNil))))))
def G_is_forced : Gn := posG (fnD 4 7 dS_is_forced) []
def T_forced_0 : DT := tCmp .ne (dVar 3) (dB bLen (dCons (dVar 2) (dNil)))
def L_forced_1 : DS := sSeq (sSet 3 (dB bLen (dCons (dVar 2) (dNil)))) (sSet 2 (dLc (iSeq (dFld fd_lines (dVar 0))) (tgN 4) (vT (dCallG G_is_forced (dCons (dVar 0) (dCons (dVar 1) (dCons (dVar 2) (dCons (dVar 4) (dNil))))))) (dVar 4) [4] false))
def dS_forced : DS := sSeq (sPar [2, 3] (dCons (dLst (dNil)) (dCons (dNeg (dCon (.int 1))) (dNil)))) (sSeq (whileD (T_forced_0) (L_forced_1) 1000) (sRet (dVar 2)))
def G_forced : Gn := posG (fnD 2 5 dS_forced) []
def dS_possible : DS := sSeq (sSet 3 (dCallG G_ways (dCons (dVar 0) (dCons (dVar 1) (dCons (dVar 2) (dNil)))))) (sRet (dLc (iSeq (dFld fd_lines (dVar 0))) (tgN 4) (tAnd (tCmp .inn (dVar 4) (dVar 3)) (tNot (vT (dFld fd_is_goal (dIx (dFld fd_lines (dVar 0)) (dVar 1)))))) (dVar 4) [4] false))
def G_possible : Gn := posG (fnD 3 5 dS_possible) []
def dS_winner_of : DS := sSeq (sSet 3 (dIx (dFld fd_lines (dVar 0)) (dVar 1))) (sSeq (sIf (vT (dFld fd_is_goal (dVar 3))) (sRet (dCon (.int 1))) (sPass)) (sRet (dIf (tCmp .ne (dCallG G_ways (dCons (dVar 0) (dCons (dVar 1) (dCons (dVar 2) (dNil))))) (dLst (dNil))) (dCon .non) (dBin .sub (dCon (.int 3)) (dFld fd_side (dVar 3))))))
def G_winner_of : Gn := posG (fnD 3 4 dS_winner_of) []
def dS_needless : DS := sSeq (sExpr (dCallG G_check_set (dCons (dVar 0) (dCons (dVar 1) (dNil))))) (sSeq (sIf (tNot (vT (dCallG G_wins (dCons (dVar 0) (dCons (dVar 1) (dNil)))))) (sThr 9) (sPass)) (sRet (dLc (iSeq (dVar 1)) (tgN 2) (vT (dCallG G_wins (dCons (dVar 0) (dCons (dB bTuple (dCons (dLc (iSeq (dVar 1)) (tgN 3) (tCmp .ne (dVar 3) (dVar 2)) (dVar 3) [3] false) (dNil))) (dNil))))) (dVar 2) [2] false)))
def G_needless : Gn := posG (fnD 2 4 dS_needless) []
def dS_needed : DS := sSeq (sExpr (dCallG G_check_board (dCons (dVar 0) (dNil)))) (sSeq (sSet 1 (dIx (dCallG G_parted (dCons (dVar 0) (dNil))) (dCon (.int 0)))) (sRet (dLc (iSeq (dFld fd_fees (dVar 0))) (tgN 2) (vT (dB bAll (dCons (dLc (iSeq (dVar 1)) (tgN 3) (tYs) (tV (tCmp .inn (dVar 2) (dVar 3))) [3] false) (dNil)))) (dVar 2) [2] false)))
def G_needed : Gn := posG (fnD 1 4 dS_needed) []
def dS_Readeru__initu_ : DS := sSeq (sAttr fd_fields (dVar 0) (dLst (dNil))) (sSeq (sAttr fd_starts (dVar 0) (dLst (dNil))) (sAttr fd_prices (dVar 0) (dLst (dNil))))
def G_Readeru__initu_ : Gn := posG (fnD 1 1 dS_Readeru__initu_) []
def dS_Field_all_parts : DS := sRet (dLst (dCons (dFld fd_side (dVar 0)) (dCons (dFld fd_aims (dVar 0)) (dCons (dFld fd_is_goal (dVar 0)) (dNil)))))
def G_Field_all_parts : Gn := posG (fnD 1 1 dS_Field_all_parts) []
def dS_Fieldu__negu_ : DS := sSeq (sSet 1 (dB (bList false) (dCons (dFld fd_aims (dVar 0)) (dNil)))) (sRet (dMakeK false 3 0 G_Fieldu__initu_ (dCons (dBin .sub (dCon (.int 3)) (dFld fd_side (dVar 0))) (dStar (dVar 1) (dNil))) (dCons (dFld fd_is_goal (dVar 0)) (dNil))))
def G_Fieldu__negu_ : Gn := posG (fnD 1 2 dS_Fieldu__negu_) []
def dS_Fieldu__containsu_ : DS := sRet (vAnd (dIsi q_str (dVar 1)) (tV (tCmp .inn (dVar 1) (dFld fd_aims (dVar 0)))))
def G_Fieldu__containsu_ : Gn := posG (fnD 2 2 dS_Fieldu__containsu_) []
def dS_Fieldu__iteru_ : DS := sNever
def G_Fieldu__iteru_ : Gn := posG (fnD 1 1 dS_Fieldu__iteru_) []
def dS_Fieldu__lenu_ : DS := sRet (dB bLen (dCons (dFld fd_aims (dVar 0)) (dNil)))
def G_Fieldu__lenu_ : Gn := posG (fnD 1 1 dS_Fieldu__lenu_) []
def dS_Field_owner : DS := sRet (dFld fd_side (dVar 0))
def G_Field_owner : Gn := posG (fnD 1 1 dS_Field_owner) []
def mt_owner : Nat → Option Gn
  | 0 => some G_Field_owner
  | _ => none
@[simp] theorem mt_owner_0 : mt_owner 0 = some G_Field_owner := rfl
def dS_Field_targets : DS := sRet (dFld fd_aims (dVar 0))
def G_Field_targets : Gn := posG (fnD 1 1 dS_Field_targets) []
def mt_targets : Nat → Option Gn
  | 0 => some G_Field_targets
  | _ => none
@[simp] theorem mt_targets_0 : mt_targets 0 = some G_Field_targets := rfl
def dS_Field_goal : DS := sRet (dFld fd_is_goal (dVar 0))
def G_Field_goal : Gn := posG (fnD 1 1 dS_Field_goal) []
def mt_goal : Nat → Option Gn
  | 0 => some G_Field_goal
  | _ => none
@[simp] theorem mt_goal_0 : mt_goal 0 = some G_Field_goal := rfl
def dS_Boardu__containsu_ : DS := sRet (vAnd (dCallG G_is_move (dCons (dFld fd_lines (dVar 0)) (dCons (dVar 1) (dNil)))) (tV (tCmp .inn (dVar 1) (dFld fd_fees (dVar 0)))))
def G_Boardu__containsu_ : Gn := posG (fnD 2 2 dS_Boardu__containsu_) []
def dS_Boardu__getitemu_ : DS := sSeq (sIf (tOr (tNot (vT (dIsi q_str (dVar 1)))) (tCmp .nin (dVar 1) (dFld fd_lines (dVar 0)))) (sNever) (sPass)) (sRet (dIx (dFld fd_lines (dVar 0)) (dVar 1)))
def G_Boardu__getitemu_ : Gn := posG (fnD 2 2 dS_Boardu__getitemu_) []
def dS_Boardu__iteru_ : DS := sNever
def G_Boardu__iteru_ : Gn := posG (fnD 1 1 dS_Boardu__iteru_) []
def dS_Boardu__lenu_ : DS := sRet (dB bLen (dCons (dFld fd_fees (dVar 0)) (dNil)))
def G_Boardu__lenu_ : Gn := posG (fnD 1 1 dS_Boardu__lenu_) []
def dS_Boardu__subu_ : DS := sRet (dCallG G_without (dCons (dVar 0) (dCons (dVar 1) (dNil))))
def G_Boardu__subu_ : Gn := posG (fnD 2 2 dS_Boardu__subu_) []
def dS_Boardu__callu_ : DS := sSeq (sIf (tNot (vT (dCallG G_is_set (dCons (dVar 0) (dCons (dVar 2) (dNil)))))) (sNever) (sPass)) (sSeq (sExpr (dCallG G_check_play (dCons (dVar 0) (dCons (dVar 1) (dCons (dVar 2) (dNil)))))) (sSeq (sSet 3 (dIx (dVar 1) (dNeg (dCon (.int 1))))) (sSeq (sSet 4 (dIf (vT (dFld fd_is_goal (dIx (dFld fd_lines (dVar 0)) (dVar 3)))) (dLst (dNil)) (dCallG G_ways (dCons (dVar 0) (dCons (dVar 3) (dCons (dVar 2) (dNil))))))) (sRet (dLc (iSeq (dFld fd_lines (dVar 0))) (tgN 5) (tCmp .inn (dVar 5) (dVar 4)) (dVar 5) [5] false)))))
def G_Boardu__callu_ : Gn := posG (fnD 3 6 dS_Boardu__callu_) []
def dS_Board_price : DS := sSeq (sIf (tOr (tNot (vT (dCallG G_is_move (dCons (dFld fd_lines (dVar 0)) (dCons (dVar 1) (dNil)))))) (tCmp .nin (dVar 1) (dFld fd_fees (dVar 0)))) (sNever) (sPass)) (sRet (dIx (dFld fd_fees (dVar 0)) (dVar 1)))
def G_Board_price : Gn := posG (fnD 2 2 dS_Board_price) []
def mt_price : Nat → Option Gn
  | 1 => some G_Board_price
  | _ => none
@[simp] theorem mt_price_1 : mt_price 1 = some G_Board_price := rfl
def dS_Board_names : DS := sRet (dB (bList false) (dCons (dFld fd_lines (dVar 0)) (dNil)))
def G_Board_names : Gn := posG (fnD 1 1 dS_Board_names) []
def mt_names : Nat → Option Gn
  | 1 => some G_Board_names
  | _ => none
@[simp] theorem mt_names_1 : mt_names 1 = some G_Board_names := rfl
def dS_Board_start : DS := sRet (dFld fd_begin (dVar 0))
def G_Board_start : Gn := posG (fnD 1 1 dS_Board_start) []
def mt_start : Nat → Option Gn
  | 1 => some G_Board_start
  | _ => none
@[simp] theorem mt_start_1 : mt_start 1 = some G_Board_start := rfl
def dS_Board_moves : DS := sRet (dB (bList false) (dCons (dFld fd_fees (dVar 0)) (dNil)))
def G_Board_moves : Gn := posG (fnD 1 1 dS_Board_moves) []
def mt_moves : Nat → Option Gn
  | 1 => some G_Board_moves
  | _ => none
@[simp] theorem mt_moves_1 : mt_moves 1 = some G_Board_moves := rfl
def dS_Forbiddingu__equ_ : DS := sSeq (sIf (tOr (tNot (vT (dIsi q_Forbidding (dVar 1)))) (tCmp .ne (dFld fd_forbidden (dVar 0)) (dFld fd_forbidden (dVar 1)))) (sRet (dCon (.bl false))) (sPass)) (sRet (vAnd (tV (tCmp .eq (dFld fd_ranks (dVar 0)) (dFld fd_ranks (dVar 1)))) (tV (tCmp .eq (dFld fd_traps (dVar 0)) (dFld fd_traps (dVar 1))))))
def G_Forbiddingu__equ_ : Gn := posG (fnD 2 2 dS_Forbiddingu__equ_) []
def dS_Forbidding_shows : DS := sSeq (sExpr (dCallG G_check_board (dCons (dVar 1) (dNil)))) (sSeq (sIf (tNot (vT (dCallG G_are_right_ranks (dCons (dVar 1) (dCons (dFld fd_forbidden (dVar 0)) (dCons (dFld fd_ranks (dVar 0)) (dNil))))))) (sRet (dCon (.bl false))) (sPass)) (sSeq (sSet 2 (dCallG G_cost_of (dCons (dVar 1) (dCons (dFld fd_forbidden (dVar 0)) (dNil))))) (sRet (dCallG G_are_against (dCons (dVar 1) (dCons (dFld fd_traps (dVar 0)) (dCons (dLc (iSeq (dCallG G_all_sets (dCons (dVar 1) (dNil)))) (tgN 3) (tCmp .lt (dCallG G_cost_of (dCons (dVar 1) (dCons (dVar 3) (dNil)))) (dVar 2)) (dVar 3) [3] false) (dNil))))))))
def G_Forbidding_shows : Gn := posG (fnD 2 4 dS_Forbidding_shows) []
def dS_NoForbiddingu__equ_ : DS := sRet (vAnd (dIsi q_NoForbidding (dVar 1)) (tV (tCmp .eq (dFld fd_traps (dVar 0)) (dFld fd_traps (dVar 1)))))
def G_NoForbiddingu__equ_ : Gn := posG (fnD 2 2 dS_NoForbiddingu__equ_) []
def dS_NoForbidding_shows : DS := sSeq (sExpr (dCallG G_check_board (dCons (dVar 1) (dNil)))) (sRet (dCallG G_are_against (dCons (dVar 1) (dCons (dFld fd_traps (dVar 0)) (dCons (dCallG G_all_sets (dCons (dVar 1) (dNil))) (dNil))))))
def G_NoForbidding_shows : Gn := posG (fnD 2 2 dS_NoForbidding_shows) []
def mt_shows : Nat → Option Gn
  | 2 => some G_Forbidding_shows
  | 3 => some G_NoForbidding_shows
  | _ => none
@[simp] theorem mt_shows_2 : mt_shows 2 = some G_Forbidding_shows := rfl
@[simp] theorem mt_shows_3 : mt_shows 3 = some G_NoForbidding_shows := rfl
def dS_Gameu__initu_ : DS := sSeq (sExpr (dCallG G_check_set (dCons (dVar 1) (dCons (dVar 2) (dNil))))) (sSeq (sAttr fd_board (dVar 0) (dVar 1)) (sSeq (sAttr fd_barred (dVar 0) (dVar 2)) (sAttr fd_steps (dVar 0) (dLst (dCons (dFld fd_begin (dVar 1)) (dNil))))))
def G_Gameu__initu_ : Gn := posG (fnD 3 3 dS_Gameu__initu_) []
def dS_Game_move : DS := sSeq (sIf (tOr (tNot (vT (dIsi q_str (dVar 1)))) (tCmp .nin (dVar 1) (dFld fd_lines (dFld fd_board (dVar 0))))) (sNever) (sPass)) (sSeq (sIf (tCmp .nin (dVar 1) (dCallG G_possible (dCons (dFld fd_board (dVar 0)) (dCons (dIx (dFld fd_steps (dVar 0)) (dNeg (dCon (.int 1)))) (dCons (dFld fd_barred (dVar 0)) (dNil)))))) (sNever) (sPass)) (sSeq (sExpr (dMth mAppend (dFld fd_steps (dVar 0)) (dCons (dVar 1) (dNil)))) (sRet (dCallG G_winner_of (dCons (dFld fd_board (dVar 0)) (dCons (dVar 1) (dCons (dFld fd_barred (dVar 0)) (dNil))))))))
def G_Game_move : Gn := posG (fnD 2 2 dS_Game_move) []
def mt_move : Nat → Option Gn
  | 4 => some G_Game_move
  | _ => none
@[simp] theorem mt_move_4 : mt_move 4 = some G_Game_move := rfl
def dS_Game_path : DS := sRet (dB bTuple (dCons (dFld fd_steps (dVar 0)) (dNil)))
def G_Game_path : Gn := posG (fnD 1 1 dS_Game_path) []
def mt_path : Nat → Option Gn
  | 4 => some G_Game_path
  | _ => none
@[simp] theorem mt_path_4 : mt_path 4 = some G_Game_path := rfl
def dS_Game_spot : DS := sRet (dIx (dFld fd_steps (dVar 0)) (dNeg (dCon (.int 1))))
def G_Game_spot : Gn := posG (fnD 1 1 dS_Game_spot) []
def mt_spot : Nat → Option Gn
  | 4 => some G_Game_spot
  | _ => none
@[simp] theorem mt_spot_4 : mt_spot 4 = some G_Game_spot := rfl
def dS_Game_winner : DS := sRet (dCallG G_winner_of (dCons (dFld fd_board (dVar 0)) (dCons (dIx (dFld fd_steps (dVar 0)) (dNeg (dCon (.int 1)))) (dCons (dFld fd_barred (dVar 0)) (dNil)))))
def G_Game_winner : Gn := posG (fnD 1 1 dS_Game_winner) []
def mt_winner : Nat → Option Gn
  | 4 => some G_Game_winner
  | _ => none
@[simp] theorem mt_winner_4 : mt_winner 4 = some G_Game_winner := rfl
def dS_Game_undo : DS := sSeq (sIf (tCmp .eq (dB bLen (dCons (dFld fd_steps (dVar 0)) (dNil))) (dCon (.int 1))) (sNever) (sPass)) (sRet (dMth mPop (dFld fd_steps (dVar 0)) dNil))
def G_Game_undo : Gn := posG (fnD 1 1 dS_Game_undo) []
def mt_undo : Nat → Option Gn
  | 4 => some G_Game_undo
  | _ => none
@[simp] theorem mt_undo_4 : mt_undo 4 = some G_Game_undo := rfl
def dS_Gameu__containsu_ : DS := sSeq (sIf (tOr (tNot (vT (dIsi q_str (dVar 1)))) (tCmp .nin (dVar 1) (dFld fd_lines (dFld fd_board (dVar 0))))) (sNever) (sPass)) (sRet (tV (tCmp .inn (dVar 1) (dCallG G_possible (dCons (dFld fd_board (dVar 0)) (dCons (dIx (dFld fd_steps (dVar 0)) (dNeg (dCon (.int 1)))) (dCons (dFld fd_barred (dVar 0)) (dNil))))))))
def G_Gameu__containsu_ : Gn := posG (fnD 2 2 dS_Gameu__containsu_) []
def dS_Gameu__lenu_ : DS := sRet (dB bLen (dCons (dSl2 (dFld fd_steps (dVar 0)) (oSome (dCon (.int 1))) (oNone)) (dNil)))
def G_Gameu__lenu_ : Gn := posG (fnD 1 1 dS_Gameu__lenu_) []
def dS_Gameu__boolu_ : DS := sRet (tV (tCmp .inn (dIx (dFld fd_steps (dVar 0)) (dNeg (dCon (.int 1)))) (dCallG G_forced (dCons (dFld fd_board (dVar 0)) (dCons (dFld fd_barred (dVar 0)) (dNil))))))
def G_Gameu__boolu_ : Gn := posG (fnD 1 1 dS_Gameu__boolu_) []
end Pg
/-! FqB -/
/-! FqB: what the defs of the laws do that several laws share; printed by gen.py. -/
namespace Lb
open PySem PySem.Spec PyProof.Rows L2 Fb Pg
def dS__law_ways : DS := sRet (dLc (iSeq (dIx (dIx (dIx (dVar 0) (dCon (.int 0))) (dVar 1)) (dCon (.int 1)))) (tgN 3) (tCmp .nin (dTup (dCons (dVar 1) (dCons (dVar 3) (dNil)))) (dVar 2)) (dVar 3) [3] false)
def G__law_ways : Gn := posG (fnD 3 4 dS__law_ways) []
def L__law_are_ranks_0 : DS := sSeq (sUnp [4, 5, 6] (dIx (dIx (dVar 0) (dCon (.int 0))) (dVar 3))) (sSeq (sSet 7 (dCallG G__law_ways (dCons (dVar 0) (dCons (dVar 3) (dCons (dVar 1) (dNil)))))) (sSeq (sSet 8 (dLc (iSeq (dVar 7)) (tgN 9) (tAnd (tCmp .inn (dVar 9) (dVar 2)) (tCmp .lt (dIx (dVar 2) (dVar 9)) (dIx (dVar 2) (dVar 3)))) (dVar 9) [9] false)) (sIf (tAnd (tNot (vT (dVar 6))) (tIfE (tCmp .eq (dVar 4) (dCon (.int 1))) (tCmp .eq (dVar 8) (dLst (dNil))) (tCmp .lt (dB bLen (dCons (dVar 8) (dNil))) (dB bLen (dCons (dVar 7) (dNil)))))) (sRet (dCon (.bl false))) (sPass))))
def dS__law_are_ranks : DS := sSeq (sIf (tCmp .nin (dIx (dVar 0) (dCon (.int 1))) (dVar 2)) (sRet (dCon (.bl false))) (sPass)) (sSeq (forS (iSeq (dVar 2)) (tgN 3) (L__law_are_ranks_0)) (sRet (dCon (.bl true))))
def G__law_are_ranks : Gn := posG (fnD 3 10 dS__law_are_ranks) []
def dS__law_field : DS := sSeq (sUnp [1, 2, 3] (dVar 0)) (sSeq (sIf (tCmp .eq (dB bLen (dCons (dVar 2) (dNil))) (dCon (.int 0))) (sRet (dMakeK false 3 0 G_Fieldu__initu_ (dCons (dVar 1) (dNil)) (dCons (dVar 3) (dNil)))) (sPass)) (sSeq (sIf (tCmp .eq (dB bLen (dCons (dVar 2) (dNil))) (dCon (.int 1))) (sRet (dMakeK false 3 0 G_Fieldu__initu_ (dCons (dVar 1) (dCons (dIx (dVar 2) (dCon (.int 0))) (dNil))) (dCons (dVar 3) (dNil)))) (sPass)) (sSeq (sIf (tCmp .eq (dB bLen (dCons (dVar 2) (dNil))) (dCon (.int 2))) (sRet (dMakeK false 3 0 G_Fieldu__initu_ (dCons (dVar 1) (dCons (dIx (dVar 2) (dCon (.int 0))) (dCons (dIx (dVar 2) (dCon (.int 1))) (dNil)))) (dCons (dVar 3) (dNil)))) (sPass)) (sRet (dMakeK false 3 0 G_Fieldu__initu_ (dCons (dVar 1) (dCons (dIx (dVar 2) (dCon (.int 0))) (dCons (dIx (dVar 2) (dCon (.int 1))) (dCons (dIx (dVar 2) (dCon (.int 2))) (dNil))))) (dCons (dVar 3) (dNil)))))))
def G__law_field : Gn := posG (fnD 1 4 dS__law_field) []
def L__law_board_0 : DS := sPut (dVar 1) (dVar 2) (dCallG G__law_field (dCons (dIx (dIx (dVar 0) (dCon (.int 0))) (dVar 2)) (dNil)))
def dS__law_board : DS := sSeq (sSet 1 (dDic0 false)) (sSeq (forS (iSeq (dIx (dVar 0) (dCon (.int 0)))) (tgN 2) (L__law_board_0)) (sSeq (sFrz 1) (sRet (dMakeE false 3 1 G_Boardu__initu_ (dCons (dVar 1) (dCons (dIx (dVar 0) (dCon (.int 1))) (dCons (dIx (dVar 0) (dCon (.int 2))) (dNil))))))))
def G__law_board : Gn := posG (fnD 1 3 dS__law_board) []
def dS__law_cell_at : DS := sSeq (sIf (tCmp .lt (dVar 1) (dB bLen (dCons (dVar 0) (dNil)))) (sRet (dIx (dVar 0) (dVar 1))) (sPass)) (sRet (dCon (.int 0)))
def G__law_cell_at : Gn := posG (fnD 2 2 dS__law_cell_at) []
def dS__law_draw : DS := sSeq (sSet 3 (dTup (dCons (dCon (.int 1000003)) (dCons (dCon (.int 1000033)) (dCons (dCon (.int 1000037)) (dCons (dCon (.int 1000039)) (dCons (dCon (.int 1000081)) (dCons (dCon (.int 1000099)) (dCons (dCon (.int 1000117)) (dCons (dCon (.int 1000121)) (dCons (dCon (.int 1000133)) (dCons (dCon (.int 1000151)) (dCons (dCon (.int 1000159)) (dCons (dCon (.int 1000171)) (dCons (dCon (.int 1000183)) (dCons (dCon (.int 1000187)) (dCons (dCon (.int 1000193)) (dCons (dCon (.int 1000199)) (dNil))))))))))))))))))) (sRet (dBin .mod (dBin .mod (dBin .add (dBin .mul (dVar 0) (dCon (.int 48271))) (dBin .mul (dVar 1) (dCon (.int 69621)))) (dIx (dVar 3) (dBin .mod (dVar 1) (dCon (.int 16))))) (dVar 2)))
def G__law_draw : Gn := posG (fnD 3 4 dS__law_draw) []
def L__law_number_0 : DS := sSet 3 (dBin .mul (dVar 3) (dCon (.int 1009)))
def dS__law_number : DS := sSeq (sSet 3 (dCon (.int 1))) (sSeq (forS (iRange1 (dCons (dBin .mod (dVar 1) (dCon (.int 24))) (dNil))) (tgN 4) (L__law_number_0)) (sSeq (sSet 5 (dBin .fdiv (dBin .sub (dVar 0) (dCon (.int (10 ^ 18)))) (dVar 3))) (sSeq (sIf (tCmp .gt (dVar 5) (dCon (.int 0))) (sRet (dBin .mod (dBin .mod (dVar 5) (dCon (.int 1009))) (dVar 2))) (sPass)) (sSeq (sSet 6 (dBin .mod (dVar 0) (dCon (.int 1000003)))) (sRet (dBin .mod (dCallG G__law_draw (dCons (dBin .mul (dBin .add (dVar 6) (dBin .mul (dCon (.int 977)) (dVar 1))) (dBin .add (dBin .add (dVar 6) (dBin .mul (dCon (.int 31)) (dVar 1))) (dCon (.int 5)))) (dCons (dBin .add (dBin .mod (dVar 1) (dCon (.int 9))) (dCon (.int 1))) (dCons (dCon (.int 999983)) (dNil))))) (dVar 2)))))))
def G__law_number : Gn := posG (fnD 3 7 dS__law_number) []
def dS__law_next : DS := sSeq (sLPut (dVar 0) (dCon (.int 2)) (dBin .add (dIx (dVar 0) (dCon (.int 2))) (dCon (.int 1)))) (sSeq (sSet 2 (dBin .fdiv (dIx (dVar 0) (dCon (.int 2))) (dCon (.int 12)))) (sSeq (sSet 3 (dBin .add (dCallG G__law_cell_at (dCons (dIx (dVar 0) (dCon (.int 0))) (dCons (dBin .add (dIx (dVar 0) (dCon (.int 1))) (dVar 2)) (dNil)))) (dBin .mul (dCon (.int 31)) (dVar 2)))) (sRet (dCallG G__law_number (dCons (dVar 3) (dCons (dBin .add (dBin .mod (dIx (dVar 0) (dCon (.int 2))) (dCon (.int 12))) (dCon (.int 1))) (dCons (dVar 1) (dNil))))))))
def G__law_next : Gn := posG (fnD 2 4 dS__law_next) []
def dS__law_pick : DS := sRet (dIx (dVar 1) (dCallG G__law_next (dCons (dVar 0) (dCons (dB bLen (dCons (dVar 1) (dNil))) (dNil)))))
def G__law_pick : Gn := posG (fnD 2 2 dS__law_pick) []
def L__law_drawn_0 : DS := sSeq (sSet 8 (dLc (iSeq (dVar 2)) (tgN 9) (tCmp .eq (dCallG G__law_next (dCons (dVar 0) (dCons (dCon (.int 3)) (dNil)))) (dCon (.int 0))) (dVar 9) [9] false)) (sSeq (sIf (tAnd (tCmp .eq (dVar 8) (dLst (dNil))) (tCmp .gt (dCallG G__law_next (dCons (dVar 0) (dCons (dCon (.int 5)) (dNil)))) (dCon (.int 0)))) (sSet 8 (dLst (dCons (dCallG G__law_pick (dCons (dVar 0) (dCons (dVar 2) (dNil)))) (dNil)))) (sPass)) (sSeq (sSet 8 (dIf (tCmp .gt (dCallG G__law_next (dCons (dVar 0) (dCons (dCon (.int 3)) (dNil)))) (dCon (.int 0))) (dSl2 (dVar 8) (oNone) (oSome (dCon (.int 3)))) (dSl2 (dRev (dVar 8)) (oNone) (oSome (dCon (.int 3)))))) (sSeq (sPut (dVar 3) (dVar 5) (dTup (dCons (dBin .add (dCon (.int 1)) (dCallG G__law_next (dCons (dVar 0) (dCons (dCon (.int 2)) (dNil))))) (dCons (dB bTuple (dCons (dVar 8) (dNil))) (dCons (tV (tCmp .eq (dCallG G__law_next (dCons (dVar 0) (dCons (dCon (.int 6)) (dNil)))) (dCon (.int 0)))) (dNil)))))) (sSet 4 (dBin .add (dVar 4) (dLc (iSeq (dVar 8)) (tgN 9) (tYs) (dTup (dCons (dVar 5) (dCons (dVar 9) (dNil)))) [9] false))))))
def L__law_drawn_1 : DS := sIf (tCmp .ne (dVar 4) (dLst (dNil))) (sPut (dVar 6) (dCallG G__law_pick (dCons (dVar 0) (dCons (dVar 4) (dNil)))) (dBin .add (dCon (.int 1)) (dCallG G__law_next (dCons (dVar 0) (dCons (dCon (.int 3)) (dNil)))))) (sPass)
def dS__law_drawn : DS := sSeq (sSet 2 (dSl2 (dLst (dCons (dCon (.str "b")) (dCons (dCon (.str "a")) (dCons (dCon (.str "home")) (dCons (dCon (.str "d")) (dCons (dCon (.str "c")) (dCons (dCon (.str "e")) (dCons (dCon (.str "f")) (dNil))))))))) (oNone) (oSome (dBin .add (dCon (.int 2)) (dCallG G__law_next (dCons (dVar 0) (dCons (dCon (.int 6)) (dNil)))))))) (sSeq (sPar [3, 4] (dCons (dDic0 false) (dCons (dLst (dNil)) (dNil)))) (sSeq (forS (iSeq (dVar 2)) (tgN 5) (L__law_drawn_0)) (sSeq (sSet 6 (dDic0 true)) (sSeq (forS (iRange1 (dCons (dCallG G__law_next (dCons (dVar 0) (dCons (dBin .add (dVar 1) (dCon (.int 1))) (dNil)))) (dNil))) (tgN 7) (L__law_drawn_1)) (sSeq (sFrz 3) (sSeq (sFrz 6) (sRet (dTup (dCons (dVar 3) (dCons (dCallG G__law_pick (dCons (dVar 0) (dCons (dVar 2) (dNil)))) (dCons (dVar 6) (dNil))))))))))))
def G__law_drawn : Gn := posG (fnD 2 10 dS__law_drawn) []
def L__law_far_0 : DS := sSeq (sUnp [5, 6, 7] (dIx (dIx (dVar 0) (dCon (.int 0))) (dVar 4))) (sPut (dVar 2) (dVar 4) (dIf (tOr (vT (dVar 7)) (tAnd (tCmp .eq (dVar 5) (dCon (.int 2))) (tCmp .eq (dCallG G__law_ways (dCons (dVar 0) (dCons (dVar 4) (dCons (dVar 1) (dNil))))) (dLst (dNil))))) (dCon (.int 0)) (dCon .non)))
def L__law_far_1 : DS := sSeq (sSet 8 (dCallG G__law_ways (dCons (dVar 0) (dCons (dVar 4) (dCons (dVar 1) (dNil)))))) (sSeq (sSet 9 (dLc (iSeq (dVar 8)) (tgN 10) (tCmp .notN (dIx (dVar 2) (dVar 10)) (dCon .non)) (dVar 10) [10] false)) (sSeq (sSet 9 (dLc (iSeq (dVar 9)) (tgN 10) (tCmp .lt (dIx (dVar 2) (dVar 10)) (dVar 3)) (dVar 10) [10] false)) (sIf (tAnd (tCmp .isN (dIx (dVar 2) (dVar 4)) (dCon .non)) (tCmp .ne (dVar 9) (dLst (dNil)))) (sIf (tOr (tCmp .eq (dIx (dIx (dIx (dVar 0) (dCon (.int 0))) (dVar 4)) (dCon (.int 0))) (dCon (.int 1))) (tCmp .eq (dB bLen (dCons (dVar 9) (dNil))) (dB bLen (dCons (dVar 8) (dNil))))) (sPut (dVar 2) (dVar 4) (dVar 3)) (sPass)) (sPass))))
def L__law_far_2 : DS := forS (iSeq (dIx (dVar 0) (dCon (.int 0)))) (tgN 4) (L__law_far_1)
def dS__law_far : DS := sSeq (sPar [2, 3] (dCons (dDic0 false) (dCons (dCon (.int 0)) (dNil)))) (sSeq (forS (iSeq (dIx (dVar 0) (dCon (.int 0)))) (tgN 4) (L__law_far_0)) (sSeq (forS (iRange2 (dCons (dCon (.int 1)) (dCons (dBin .add (dB bLen (dCons (dIx (dVar 0) (dCon (.int 0))) (dNil))) (dCon (.int 1))) (dNil)))) (tgN 3) (L__law_far_2)) (sSeq (sFrz 2) (sRet (dVar 2)))))
def G__law_far : Gn := posG (fnD 2 11 dS__law_far) []
def L__law_is_trap_0 : DS := sSeq (sUnp [3, 4, 5] (dIx (dIx (dVar 0) (dCon (.int 0))) (dVar 2))) (sSeq (sIf (tOr (vT (dVar 5)) (tAnd (tCmp .eq (dVar 3) (dCon (.int 1))) (tCmp .notN (dIx (dVar 1) (dVar 2)) (dCon .non)))) (sRet (dCon (.bl false))) (sPass)) (sIf (tAnd (tCmp .eq (dVar 3) (dCon (.int 2))) (tOr (tCmp .nin (dIx (dVar 1) (dVar 2)) (dVar 4)) (tCmp .nin (dIx (dVar 1) (dVar 2)) (dVar 1)))) (sRet (dCon (.bl false))) (sPass)))
def dS__law_is_trap : DS := sSeq (sIf (tCmp .nin (dIx (dVar 0) (dCon (.int 1))) (dVar 1)) (sRet (dCon (.bl false))) (sPass)) (sSeq (forS (iSeq (dVar 1)) (tgN 2) (L__law_is_trap_0)) (sRet (dCon (.bl true))))
def G__law_is_trap : Gn := posG (fnD 2 6 dS__law_is_trap) []
def L__law_holds_0 : DS := sSeq (sIf (tAnd (tCmp .eq (dIx (dIx (dIx (dVar 0) (dCon (.int 0))) (dVar 3)) (dCon (.int 0))) (dCon (.int 2))) (tCmp .inn (dTup (dCons (dVar 3) (dCons (dIx (dVar 2) (dVar 3)) (dNil)))) (dVar 1))) (sRet (dCon (.bl false))) (sPass)) (sIf (tCmp .eq (dIx (dIx (dIx (dVar 0) (dCon (.int 0))) (dVar 3)) (dCon (.int 0))) (dCon (.int 1))) (sIf (tNot (vT (dB bAll (dCons (dLc (iSeq (dCallG G__law_ways (dCons (dVar 0) (dCons (dVar 3) (dCons (dVar 1) (dNil)))))) (tgN 4) (tYs) (tV (tCmp .inn (dVar 4) (dVar 2))) [4] false) (dNil))))) (sRet (dCon (.bl false))) (sPass)) (sPass))
def dS__law_holds : DS := sSeq (sIf (tNot (vT (dCallG G__law_is_trap (dCons (dVar 0) (dCons (dVar 2) (dNil)))))) (sRet (dCon (.bl false))) (sPass)) (sSeq (forS (iSeq (dVar 2)) (tgN 3) (L__law_holds_0)) (sRet (dCon (.bl true))))
def G__law_holds : Gn := posG (fnD 3 5 dS__law_holds) []
def L__law_ranks_0 : DS := sIf (tAnd (tCmp .notN (dIx (dVar 3) (dVar 5)) (dCon .non)) (tCmp .gt (dCallG G__law_next (dCons (dVar 0) (dCons (dCon (.int 9)) (dNil)))) (dCon (.int 0)))) (sPut (dVar 4) (dVar 5) (dBin .add (dBin .mul (dCon (.int 2)) (dIx (dVar 3) (dVar 5))) (dCallG G__law_next (dCons (dVar 0) (dCons (dCon (.int 2)) (dNil)))))) (sPass)
def dS__law_ranks : DS := sSeq (sPar [3, 4] (dCons (dCallG G__law_far (dCons (dVar 1) (dCons (dVar 2) (dNil)))) (dCons (dDic0 false) (dNil)))) (sSeq (forS (iSeq (dRev (dB (bList false) (dCons (dVar 3) (dNil))))) (tgN 5) (L__law_ranks_0)) (sSeq (sIf (tCmp .eq (dCallG G__law_next (dCons (dVar 0) (dCons (dCon (.int 3)) (dNil)))) (dCon (.int 0))) (sPut (dVar 4) (dCallG G__law_pick (dCons (dVar 0) (dCons (dB (bList false) (dCons (dVar 3) (dNil))) (dNil)))) (dCallG G__law_next (dCons (dVar 0) (dCons (dCon (.int 6)) (dNil))))) (sPass)) (sSeq (sFrz 4) (sRet (dVar 4)))))
def G__law_ranks : Gn := posG (fnD 3 6 dS__law_ranks) []
def L__law_sets_0 : DS := sSeq (sSet 6 (dIf (tCmp .ne (dVar 5) (dTup (dNil))) (dBin .add (dMth mIndex (dVar 1) (dCons (dIx (dVar 5) (dNeg (dCon (.int 1)))) (dNil))) (dCon (.int 1))) (dCon (.int 0)))) (sSet 4 (dBin .add (dVar 4) (dLc (iSeq (dSl2 (dVar 1) (oSome (dVar 6)) (oNone))) (tgN 7) (tYs) (dBin .add (dVar 5) (dTup (dCons (dVar 7) (dNil)))) [7] false)))
def T__law_sets_1 : DT := tCmp .ne (dVar 3) (dLst (dNil))
def L__law_sets_2 : DS := sSeq (sSet 4 (dLst (dNil))) (sSeq (forS (iSeq (dVar 3)) (tgN 5) (L__law_sets_0)) (sPar [2, 3] (dCons (dBin .add (dVar 2) (dVar 4)) (dCons (dVar 4) (dNil)))))
def dS__law_sets : DS := sSeq (sPar [1, 2, 3] (dCons (dB (bList false) (dCons (dIx (dVar 0) (dCon (.int 2))) (dNil))) (dCons (dLst (dCons (dTup (dNil)) (dNil))) (dCons (dLst (dCons (dTup (dNil)) (dNil))) (dNil))))) (sSeq (whileD (T__law_sets_1) (L__law_sets_2) 1000) (sRet (dVar 2)))
def G__law_sets : Gn := posG (fnD 1 8 dS__law_sets) []
def T__law_trap_0 : DT := tCmp .ne (dVar 5) (dLst (dNil))
def L__law_trap_1 : DS := sSeq (sSet 6 (dMth mPop (dVar 5) dNil)) (sIf (tCmp .nin (dVar 6) (dVar 4)) (sSeq (sSet 7 (dLc (iSeq (dCallG G__law_ways (dCons (dVar 1) (dCons (dVar 6) (dCons (dVar 2) (dNil)))))) (tgN 8) (tCmp .isN (dIx (dVar 3) (dVar 8)) (dCon .non)) (dVar 8) [8] false)) (sSeq (sPut (dVar 4) (dVar 6) (dCon .non)) (sSeq (sIf (tAnd (tCmp .eq (dIx (dIx (dIx (dVar 1) (dCon (.int 0))) (dVar 6)) (dCon (.int 0))) (dCon (.int 2))) (tCmp .ne (dVar 7) (dLst (dNil)))) (sSeq (sPut (dVar 4) (dVar 6) (dCallG G__law_pick (dCons (dVar 0) (dCons (dVar 7) (dNil))))) (sSet 7 (dLst (dCons (dIx (dVar 4) (dVar 6)) (dNil))))) (sPass)) (sSet 5 (dAddL (dVar 5) (dVar 7)))))) (sPass))
def dS__law_trap : DS := sSeq (sPar [3, 4, 5] (dCons (dCallG G__law_far (dCons (dVar 1) (dCons (dVar 2) (dNil)))) (dCons (dDic0 false) (dCons (dLstL (dCons (dIx (dVar 1) (dCon (.int 1))) (dNil))) (dNil))))) (sSeq (whileD (T__law_trap_0) (L__law_trap_1) 1000) (sSeq (sIf (tCmp .eq (dCallG G__law_next (dCons (dVar 0) (dCons (dCon (.int 3)) (dNil)))) (dCon (.int 0))) (sSeq (sSet 6 (dCallG G__law_pick (dCons (dVar 0) (dCons (dB (bList false) (dCons (dIx (dVar 1) (dCon (.int 0))) (dNil))) (dNil))))) (sIf (tCmp .inn (dVar 6) (dVar 4)) (sExpr (dPop1 (dVar 4) (dVar 6))) (sPut (dVar 4) (dVar 6) (dCallG G__law_pick (dCons (dVar 0) (dCons (dBin .add (dLst (dCons (dCon .non) (dNil))) (dB (bList false) (dCons (dIx (dVar 1) (dCon (.int 0))) (dNil)))) (dNil))))))) (sPass)) (sSeq (sFrz 4) (sRet (dVar 4)))))
def G__law_trap : Gn := posG (fnD 3 9 dS__law_trap) []
def dS__law_within (G_self : Gn) : DS := sSeq (sUnp [4, 5, 6] (dIx (dIx (dVar 0) (dCon (.int 0))) (dVar 1))) (sSeq (sSet 7 (dCallG G__law_ways (dCons (dVar 0) (dCons (dVar 1) (dCons (dVar 2) (dNil)))))) (sSeq (sIf (tOr (vT (dVar 6)) (tAnd (tCmp .eq (dVar 4) (dCon (.int 2))) (tCmp .eq (dVar 7) (dLst (dNil))))) (sRet (dCon (.bl true))) (sPass)) (sSeq (sIf (tCmp .eq (dVar 3) (dCon (.int 0))) (sRet (dCon (.bl false))) (sPass)) (sSeq (sSet 8 (dLc (iSeq (dVar 7)) (tgN 9) (tYs) (dCallG G_self (dCons (dVar 0) (dCons (dVar 9) (dCons (dVar 2) (dCons (dBin .sub (dVar 3) (dCon (.int 1))) (dNil)))))) [9] false)) (sRet (dIf (tCmp .eq (dVar 4) (dCon (.int 1))) (dB bAny (dCons (dVar 8) (dNil))) (dB bAll (dCons (dVar 8) (dNil)))))))))
def G__law_within : Nat → Gn
  | 0 => fun _ _ => stk
  | n + 1 => posG (fnD 4 10 (dS__law_within (G__law_within n))) []
end Lb
/-! LWA -/
set_option maxHeartbeats 0
namespace Lw
open PySem PySem.Spec PyProof.Rows L2 Fb Pg Lb
def top (i : Nat) : Stmt := PySem.Challenge.pw_forbidmoves_k12_whole_needs.main.body.getD i (.Pass ⟨0, 0, 0, 0⟩)
abbrev s_is_integer : Stmt := top 14
abbrev s_is_move : Stmt := top 18
abbrev s_are_prices : Stmt := top 19
abbrev s_is_field_of : Stmt := top 17
abbrev s_is_name : Stmt := top 15
abbrev s_Boardu__initu_ : Stmt := inClass (top 20) 0
abbrev s_Fieldu__initu_ : Stmt := inClass (top 16) 0
abbrev s__law_field : Stmt := top 45
abbrev s__law_board : Stmt := top 46
abbrev s__law_cell_at : Stmt := top 39
abbrev s__law_draw : Stmt := top 40
abbrev s__law_number : Stmt := top 41
abbrev s__law_next : Stmt := top 42
abbrev s__law_pick : Stmt := top 43
abbrev s__law_drawn : Stmt := top 44
abbrev s__law_ways : Stmt := top 47
abbrev s__law_far : Stmt := top 48
abbrev s_check_board : Stmt := top 22
abbrev s_is_set : Stmt := top 21
abbrev s_check_set : Stmt := top 23
abbrev s_ways : Stmt := top 24
abbrev s_is_won_at_once : Stmt := top 29
abbrev s_leads_on : Stmt := top 30
abbrev s_distances_of : Stmt := top 28
abbrev s_wins : Stmt := top 31
abbrev s_needless : Stmt := top 36
abbrev s__law_refused : Stmt := top 50
abbrev s__law_sets : Stmt := top 49
abbrev s_all_sets : Stmt := top 33
abbrev s_parted : Stmt := top 34
abbrev s_needed : Stmt := top 37
abbrev s__law_one_right : Stmt := top 51
abbrev s_law : Stmt := top 52
/-! the classes -/
def tb (K : PySem.W.Frag) : Tb where
  ct := fun c => match c with
    | 0 => some (He.ga K "Field", (["side", "aims", "is_goal"] : List Str))
    | 1 => some (He.ga K "Board", (["lines", "begin", "fees"] : List Str))
    | _ => none
  xt := fun c => match c with
    | 9 => some (He.ga K "NotWinning", ([] : List Str))
    | _ => none
def x_NotWinning : Nat → Option Bool
  | 9 => some true
  | _ => none
end Lw
/-! LHA -/
namespace Lw
open PySem PySem.Spec PyProof.Rows L2 Fb Pg Lb
variable {P : Program} {w : World} {K : PySem.W.Frag} {mg : Str → Option Value} {base : Heap}
def dd_is_integer : He.DefD := ⟨("is_integer", none), "is_integer", "is_integer", defArgs s_is_integer, defBody s_is_integer, defScope s_is_integer, [], []⟩
def dd_is_move : He.DefD := ⟨("is_move", none), "is_move", "is_move", defArgs s_is_move, defBody s_is_move, defScope s_is_move, [], []⟩
def dd_are_prices : He.DefD := ⟨("are_prices", none), "are_prices", "are_prices", defArgs s_are_prices, defBody s_are_prices, defScope s_are_prices, [], []⟩
def dd_is_field_of : He.DefD := ⟨("is_field_of", none), "is_field_of", "is_field_of", defArgs s_is_field_of, defBody s_is_field_of, defScope s_is_field_of, [], []⟩
def dd_is_name : He.DefD := ⟨("is_name", none), "is_name", "is_name", defArgs s_is_name, defBody s_is_name, defScope s_is_name, [], []⟩
def dd_Boardu__initu_ : He.DefD := ⟨("Board", some "__init__"), "__init__", "Board.__init__", defArgs s_Boardu__initu_, defBody s_Boardu__initu_, defScope s_Boardu__initu_, [], []⟩
def dd_Fieldu__initu_ : He.DefD := ⟨("Field", some "__init__"), "__init__", "Field.__init__", defArgs s_Fieldu__initu_, defBody s_Fieldu__initu_, defScope s_Fieldu__initu_, [], [("goal", .bl false)]⟩
def dd__law_field : He.DefD := ⟨("_law_field", none), "_law_field", "_law_field", defArgs s__law_field, defBody s__law_field, defScope s__law_field, [], []⟩
def dd__law_board : He.DefD := ⟨("_law_board", none), "_law_board", "_law_board", defArgs s__law_board, defBody s__law_board, defScope s__law_board, [], []⟩
def dd__law_cell_at : He.DefD := ⟨("_law_cell_at", none), "_law_cell_at", "_law_cell_at", defArgs s__law_cell_at, defBody s__law_cell_at, defScope s__law_cell_at, [], []⟩
def dd__law_draw : He.DefD := ⟨("_law_draw", none), "_law_draw", "_law_draw", defArgs s__law_draw, defBody s__law_draw, defScope s__law_draw, [], []⟩
def dd__law_number : He.DefD := ⟨("_law_number", none), "_law_number", "_law_number", defArgs s__law_number, defBody s__law_number, defScope s__law_number, [], []⟩
def dd__law_next : He.DefD := ⟨("_law_next", none), "_law_next", "_law_next", defArgs s__law_next, defBody s__law_next, defScope s__law_next, [], []⟩
def dd__law_pick : He.DefD := ⟨("_law_pick", none), "_law_pick", "_law_pick", defArgs s__law_pick, defBody s__law_pick, defScope s__law_pick, [], []⟩
def dd__law_drawn : He.DefD := ⟨("_law_drawn", none), "_law_drawn", "_law_drawn", defArgs s__law_drawn, defBody s__law_drawn, defScope s__law_drawn, [], []⟩
def dd__law_ways : He.DefD := ⟨("_law_ways", none), "_law_ways", "_law_ways", defArgs s__law_ways, defBody s__law_ways, defScope s__law_ways, [], []⟩
def dd__law_far : He.DefD := ⟨("_law_far", none), "_law_far", "_law_far", defArgs s__law_far, defBody s__law_far, defScope s__law_far, [], []⟩
def dd_check_board : He.DefD := ⟨("check_board", none), "check_board", "check_board", defArgs s_check_board, defBody s_check_board, defScope s_check_board, [], []⟩
def dd_is_set : He.DefD := ⟨("is_set", none), "is_set", "is_set", defArgs s_is_set, defBody s_is_set, defScope s_is_set, [], []⟩
def dd_check_set : He.DefD := ⟨("check_set", none), "check_set", "check_set", defArgs s_check_set, defBody s_check_set, defScope s_check_set, [], []⟩
def dd_ways : He.DefD := ⟨("ways", none), "ways", "ways", defArgs s_ways, defBody s_ways, defScope s_ways, [], []⟩
def dd_is_won_at_once : He.DefD := ⟨("is_won_at_once", none), "is_won_at_once", "is_won_at_once", defArgs s_is_won_at_once, defBody s_is_won_at_once, defScope s_is_won_at_once, [], []⟩
def dd_leads_on : He.DefD := ⟨("leads_on", none), "leads_on", "leads_on", defArgs s_leads_on, defBody s_leads_on, defScope s_leads_on, [], []⟩
def dd_distances_of : He.DefD := ⟨("distances_of", none), "distances_of", "distances_of", defArgs s_distances_of, defBody s_distances_of, defScope s_distances_of, [], []⟩
def dd_wins : He.DefD := ⟨("wins", none), "wins", "wins", defArgs s_wins, defBody s_wins, defScope s_wins, [], []⟩
def dd_needless : He.DefD := ⟨("needless", none), "needless", "needless", defArgs s_needless, defBody s_needless, defScope s_needless, [], []⟩
def dd__law_refused : He.DefD := ⟨("_law_refused", none), "_law_refused", "_law_refused", defArgs s__law_refused, defBody s__law_refused, defScope s__law_refused, [], []⟩
def dd__law_sets : He.DefD := ⟨("_law_sets", none), "_law_sets", "_law_sets", defArgs s__law_sets, defBody s__law_sets, defScope s__law_sets, [], []⟩
def dd_all_sets : He.DefD := ⟨("all_sets", none), "all_sets", "all_sets", defArgs s_all_sets, defBody s_all_sets, defScope s_all_sets, [], []⟩
def dd_parted : He.DefD := ⟨("parted", none), "parted", "parted", defArgs s_parted, defBody s_parted, defScope s_parted, [], []⟩
def dd_needed : He.DefD := ⟨("needed", none), "needed", "needed", defArgs s_needed, defBody s_needed, defScope s_needed, [], []⟩
def dd__law_one_right : He.DefD := ⟨("_law_one_right", none), "_law_one_right", "_law_one_right", defArgs s__law_one_right, defBody s__law_one_right, defScope s__law_one_right, [], []⟩
def dd_law : He.DefD := ⟨("law", none), "law", "law", defArgs s_law, defBody s_law, defScope s_law, [], []⟩
def fnL : List He.DefD := [dd_is_integer, dd_is_move, dd_are_prices, dd_is_field_of, dd_is_name, dd_Boardu__initu_, dd_Fieldu__initu_, dd__law_field, dd__law_board, dd__law_cell_at, dd__law_draw, dd__law_number, dd__law_next, dd__law_pick, dd__law_drawn, dd__law_ways, dd__law_far, dd_check_board, dd_is_set, dd_check_set, dd_ways, dd_is_won_at_once, dd_leads_on, dd_distances_of, dd_wins, dd_needless, dd__law_refused, dd__law_sets, dd_all_sets, dd_parted, dd_needed, dd__law_one_right, dd_law]
def faL : List He.Fa := [.glo "is_integer", .keep "is_integer", .glo "is_move", .keep "is_move", .glo "are_prices", .keep "are_prices", .glo "is_field_of", .keep "is_field_of", .glo "is_name", .keep "is_name", .glo "_law_field", .keep "_law_field", .glo "_law_board", .keep "_law_board", .glo "_law_cell_at", .keep "_law_cell_at", .glo "_law_draw", .keep "_law_draw", .glo "_law_number", .keep "_law_number", .glo "_law_next", .keep "_law_next", .glo "_law_pick", .keep "_law_pick", .glo "_law_drawn", .keep "_law_drawn", .glo "_law_ways", .keep "_law_ways", .glo "_law_far", .keep "_law_far", .glo "check_board", .keep "check_board", .glo "is_set", .keep "is_set", .glo "check_set", .keep "check_set", .glo "ways", .keep "ways", .glo "is_won_at_once", .keep "is_won_at_once", .glo "leads_on", .keep "leads_on", .glo "distances_of", .keep "distances_of", .glo "wins", .keep "wins", .glo "needless", .keep "needless", .glo "_law_refused", .keep "_law_refused", .glo "_law_sets", .keep "_law_sets", .glo "all_sets", .keep "all_sets", .glo "parted", .keep "parted", .glo "needed", .keep "needed", .glo "_law_one_right", .keep "_law_one_right", .glo "law", .keep "law", .free "all", .free "any", .free "bool", .free "dict", .free "int", .free "isinstance", .free "len", .free "list", .free "max", .free "min", .free "range", .free "str", .free "tuple", .str "LETTERS" "abcdefghijklmnopqrstuvwxyz", .int "MAX_COST" 9, .int "MAX_FIELDS" 8, .int "MAX_NAME" 8, .int "MAX_PRICES" 6, .glo "Field", .glo "Board", .mkr "Field", .mkr "Board", .glo "NotWinning", .exc "NotWinning", .exm "NotWinning" "NotWinning" true, .cls "Field", .noat "Field" "aims", .cls "Board", .noat "Board" "begin", .noat "Board" "fees", .noat "Field" "is_goal", .noat "Board" "lines", .noat "Field" "side"]
def exB (K : PySem.W.Frag) : List Bool := [isqT K (.ref (He.ga K "Board")) q_Board, isqC K (tb K) (.ref (He.ga K "Board")) q_Board 6, isqT K (.ref (He.ga K "Field")) q_Field, isqC K (tb K) (.ref (He.ga K "Field")) q_Field 6, isqT K (.type "bool") q_bool, isqC K (tb K) (.type "bool") q_bool 6, isqT K (.type "dict") q_dict, isqC K (tb K) (.type "dict") q_dict 6, isqT K (.type "int") q_int, isqC K (tb K) (.type "int") q_int 6, isqT K (.type "str") q_str, isqC K (tb K) (.type "str") q_str 6, isqT K (.type "tuple") q_tuple, isqC K (tb K) (.type "tuple") q_tuple 6]
def exL (K : PySem.W.Frag) : Bool := (exB K).all id
def loose0 : List Str := ["__name__", "MoveError", "BadField", "BadBoard", "BadName", "BadSet", "BadPlay", "NotWinning", "LETTERS", "MAX_NAME", "MAX_FIELDS", "MAX_PRICES", "MAX_COST", "is_integer", "is_name", "Field", "is_field_of", "is_move", "are_prices", "Board", "is_set", "check_board", "check_set", "ways", "without", "check_play", "distances_of", "is_won_at_once", "leads_on", "wins"]
def loose1 : List Str := ["all_sets", "parted", "needless", "needed", "_law_cell_at", "_law_draw", "_law_number", "_law_next", "_law_pick", "_law_drawn", "_law_field", "_law_board", "_law_ways", "_law_far", "_law_sets", "_law_refused", "_law_one_right"]
def loose : List Str := loose0 ++ loose1
abbrev R : PySem.W.OpenRow := PySem.W.OpenLaw.row PySem.Challenge.rw_forbidmoves_k12_whole_needs
abbrev hk : PySem.W.Hook := He.hookX 5 faL fnL [] [] exL
def ob (s : PySem.W.SharedT) : He.AlX := He.obsX 5 faL fnL [] [] exL (HandSHeadRun.getT s)
theorem ob_eq (s : PySem.W.SharedT) : ob s = hk.obs s.abs := He.obsX_eq (HandSHeadRun.getT_eq s)
theorem map3 {α β γ δ : Type} {e : Option α} {f : α → β} {g : α → γ} {h : α → δ} {a : β} {b : γ} {c : δ} (h1 : e.map f = some a) (h2 : e.map g = some b) (h3 : e.map h = some c) : e.map (fun s => (f s, g s, h s)) = some (a, b, c) := by
  cases e with
  | none => cases h1
  | some s => cases h1; cases h2; cases h3; rfl
open PySem.W HandSHeadRun in
theorem run_a (w : World) : ∀ os : OsState, (endF (stepQ (denQ tabQ) R.prog w) 12000 R.prog w os).map (fun s => looksF R.prog (boot_heap w.params) s.abs) = some true := by
  intro os
  kernel_rfl
open PySem.W HandSHeadRun in
theorem run_b (w : World) : ∀ os : OsState, (endF (stepQ (denQ tabQ) R.prog w) 12000 R.prog w os).map (fun s => seenQ (PySem.W.view R.prog [52]) loose (importedModules R.prog.main.body) (fun s => xlAt (PySem.W.view R.prog [52]) [] s && recOk R.toRowW.records s) s.abs) = some (openGood (PySem.W.view R.prog [52]) loose) := by
  intro os
  kernel_rfl
open PySem.W HandSHeadRun in
theorem run_c (w : World) : ∀ os : OsState, (endF (stepQ (denQ tabQ) R.prog w) 12000 R.prog w os).map ob = some (hk.val w) := by
  intro os
  kernel_rfl
theorem run (w : World) : HandSHeadRun.RunEq R (PySem.W.view R.prog [52]) hk ob 12000 loose w := fun os => map3 (run_a w os) (run_b w os) (run_c w os)
end Lw
/-! FbEv -/
/-! FbEv: the denotations reckoned by simp. -/
namespace Fb
open PySem
/-! ### the monad -/
def Rs.bind {α β : Type} (r : Rs α) (f : α → Sto → Rs β) : Rs β := match r with
  | .ok a s => f a s
  | .exc x s => .exc x s
  | .stuck => .stuck
def Rs.bindE {α : Type} (r : Rs α) (e : DEnv) (k : α → Sto → Rt) : Rt := match r with
  | .ok a s => k a s
  | .exc x s => .exc x e s
  | .stuck => .stuck
def Rt.seq (r : Rt) (b : DS) : Rt := match r with
  | .nx e s => b e s
  | r => r
section
variable {α β : Type}
@[simp] theorem ev_ret (a : α) (s : Sto) : ret a s = .ok a s := rfl
@[simp] theorem ev_thr (x : Ex) (s : Sto) : (thr x : M α) s = .exc x s := rfl
@[simp] theorem ev_stk (s : Sto) : (stk : M α) s = .stuck := rfl
@[simp] theorem ev_bnd (m : M α) (f : α → M β) (s : Sto) : bnd m f s = (m s).bind f := by unfold bnd Rs.bind; rfl
@[simp] theorem bind_ok (a : α) (s : Sto) (f : α → Sto → Rs β) : (Rs.ok a s).bind f = f a s := rfl
@[simp] theorem bind_exc (x : Ex) (s : Sto) (f : α → Sto → Rs β) : (Rs.exc x s).bind f = .exc x s := rfl
@[simp] theorem bind_stuck (f : α → Sto → Rs β) : (Rs.stuck).bind f = .stuck := rfl
@[simp] theorem ev_bndE (m : M α) (e : DEnv) (k : α → Sto → Rt) (s : Sto) : bndE m e k s = (m s).bindE e k := by unfold bndE Rs.bindE; rfl
@[simp] theorem bindE_ok (a : α) (s : Sto) (e : DEnv) (f : α → Sto → Rt) : (Rs.ok a s).bindE e f = f a s := rfl
@[simp] theorem bindE_exc (x : Ex) (s : Sto) (e : DEnv) (f : α → Sto → Rt) : (Rs.exc x s).bindE e f = .exc x e s := rfl
@[simp] theorem bindE_stuck (e : DEnv) (f : α → Sto → Rt) : (Rs.stuck).bindE e f = .stuck := rfl
@[simp] theorem seq_nx (e : DEnv) (s : Sto) (b : DS) : (Rt.nx e s).seq b = b e s := rfl
@[simp] theorem seq_rt (v : Val) (s : Sto) (b : DS) : (Rt.rt v s).seq b = .rt v s := rfl
@[simp] theorem seq_exc (x : Ex) (e : DEnv) (s : Sto) (b : DS) : (Rt.exc x e s).seq b = .exc x e s := rfl
@[simp] theorem seq_stuck (b : DS) : Rt.stuck.seq b = .stuck := rfl
@[simp] theorem ite_app {p : Prop} [Decidable p] (a b : M α) (s : Sto) : (if p then a else b) s = if p then a s else b s := by split <;> rfl
@[simp] theorem ite_appS {p : Prop} [Decidable p] (a b : DS) (e : DEnv) (s : Sto) : (if p then a else b) e s = if p then a e s else b e s := by split <;> rfl
end
/-! ### expressions -/
section
variable (e : DEnv) (s : Sto) (f g h : DE) (t u : DT) (da : DA)
def optV : Option (Option Val) → Sto → Rs Val
  | some (some v), s => .ok v s
  | _, _ => .stuck
@[simp] theorem optV_some (v : Val) : optV (some (some v)) s = .ok v s := rfl
@[simp] theorem ev_var (i : Nat) : dVar i e s = optV e[i]? s := by
  unfold dVar optV
  cases e[i]? with
  | none => rfl
  | some o => cases o <;> rfl
@[simp] theorem ev_con (x : D) : dCon x e s = .ok (.d x) s := rfl
@[simp] theorem ev_nil : dNil e s = .ok [] s := rfl
@[simp] theorem ev_cons : dCons f da e s = (f e s).bind fun v => bnd (da e) fun t => ret (v :: t) := rfl
@[simp] theorem ev_snap (x : D) : snap (.d x) s = .ok x s := rfl
@[simp] theorem ev_plain (x : D) : plain (.d x) s = .ok x s := rfl
@[simp] theorem ev_plains_nil : plains [] s = .ok [] s := rfl
@[simp] theorem ev_plains_cons (x : D) (r : List Val) : plains (.d x :: r) s = (plains r s).bind fun t => ret (x :: t) := rfl
theorem ev_plains : ∀ (l : List D) (s : Sto), plains (l.map .d) s = .ok l s
  | [], _ => rfl
  | x :: r, s => by rw [List.map_cons, ev_plains_cons, ev_plains r s]; rfl
@[simp] theorem ev_cap {α : Type} (n : Nat) (m : M α) (h : n < 1000000) : cap n m s = m s := by unfold cap; rw [if_pos h]
@[simp] theorem ev_tup : dTup da e s = (da e s).bind fun vs => bnd (plains vs) fun xs => cap xs.length (ret (.d (.tup xs))) := rfl
@[simp] theorem ev_lst : dLst da e s = (da e s).bind fun vs => bnd (plains vs) fun xs => cap xs.length (ret (.d (.lst xs))) := rfl
@[simp] theorem ev_lstL : dLstL da e s = (da e s).bind fun vs => bnd (plains vs) fun xs => cap xs.length (newCell (.lst xs)) := rfl
@[simp] theorem ev_newCell (c : Cel) : newCell c s = .ok (.cell s.length) (s ++ [some c]) := rfl
@[simp] theorem ev_dic0 (b : Bool) : dDic0 b e s = .ok (.cell s.length) (s ++ [some (.dic b [])]) := rfl
@[simp] theorem ev_opD (k : D → D → M D) (v w : Val) : opD k v w s = (snap v s).bind fun x => bnd (snap w) fun y => bnd (k x y) fun z => ret (.d z) := rfl
@[simp] theorem ev_bin (op : Bop) : dBin op f g e s = (f e s).bind fun v => bnd (g e) fun w => opD (binD op) v w := rfl
@[simp] theorem ev_addI (a b : Int) : binD .add (.int a) (.int b) s = .ok (.int (a + b)) s := rfl
@[simp] theorem ev_subI (a b : Int) : binD .sub (.int a) (.int b) s = .ok (.int (a - b)) s := rfl
@[simp] theorem ev_mulI (a b : Int) (h : a.natAbs < 2 ^ 64 ∨ b.natAbs < 2 ^ 64) : binD .mul (.int a) (.int b) s = .ok (.int (a * b)) s := by
  show (if _ then _ else _ : M D) s = _
  rw [if_pos h]; rfl
@[simp] theorem ev_modI (a b : Int) (h : 0 < b) : binD .mod (.int a) (.int b) s = .ok (.int (a % b)) s := by
  show (if _ then _ else _ : M D) s = _
  rw [if_pos h]; rfl
@[simp] theorem ev_divI (a b : Int) (h : 0 < b) (h2 : b.natAbs < 2 ^ 9000) : binD .fdiv (.int a) (.int b) s = .ok (.int (a / b)) s := by
  show (if _ then _ else _ : M D) s = _
  rw [if_pos ⟨h, h2⟩]; rfl
@[simp] theorem ev_addL (a b : List D) (h : a.length + b.length ≤ sizeLine) : binD .add (.lst a) (.lst b) s = .ok (.lst (a ++ b)) s := by
  show (if _ then _ else _ : M D) s = _
  rw [if_pos h]; rfl
@[simp] theorem ev_addT (a b : List D) (h : a.length + b.length ≤ sizeLine) : binD .add (.tup a) (.tup b) s = .ok (.tup (a ++ b)) s := by
  show (if _ then _ else _ : M D) s = _
  rw [if_pos h]; rfl
def negD : D → M Val
  | .int i => ret (.d (.int (-i)))
  | _ => stk
@[simp] theorem ev_neg : dNeg f e s = (f e s).bind fun v => bnd (plain v) negD := rfl
@[simp] theorem ev_negI (i : Int) : negD (.int i) s = .ok (.d (.int (-i))) s := rfl
/-! ### comparisons -/
@[simp] theorem ev_opB (k : D → D → M Bool) (v w : Val) : opB k v w s = (snap v s).bind fun x => bnd (snap w) fun y => k x y := rfl
@[simp] theorem ev_cmp (op : Cop) : tCmp op f g e s = (f e s).bind fun v => bnd (g e) fun w => opB (cmpD op) v w := rfl
@[simp] theorem ev_eq (x y : D) (h : okQ x y = true) : cmpD .eq x y s = .ok (eqD x y) s := by
  show (if _ then _ else _ : M Bool) s = _
  rw [if_pos h]; rfl
@[simp] theorem ev_ne (x y : D) (h : okQ x y = true) : cmpD .ne x y s = .ok (!eqD x y) s := by
  show (if _ then _ else _ : M Bool) s = _
  rw [if_pos h]; rfl
@[simp] theorem ev_lt (a b : Int) : cmpD .lt (.int a) (.int b) s = .ok (decide (a < b)) s := rfl
@[simp] theorem ev_le (a b : Int) : cmpD .le (.int a) (.int b) s = .ok (decide (a ≤ b)) s := rfl
@[simp] theorem ev_gt (a b : Int) : cmpD .gt (.int a) (.int b) s = .ok (decide (b < a)) s := rfl
@[simp] theorem ev_ge (a b : Int) : cmpD .ge (.int a) (.int b) s = .ok (decide (b ≤ a)) s := rfl
@[simp] theorem ev_isN (x : D) : cmpD .isN x .non s = .ok (isNonD x) s := rfl
@[simp] theorem ev_notN (x : D) : cmpD .notN x .non s = .ok (!isNonD x) s := rfl
@[simp] theorem ev_isB (b c : Bool) : cmpD .isB (.bl b) (.bl c) s = .ok (b == c) s := rfl
@[simp] theorem ev_notB (b c : Bool) : cmpD .notB (.bl b) (.bl c) s = .ok (b != c) s := rfl
@[simp] theorem ev_inn (x y : D) : cmpD .inn x y s = inD x y s := rfl
@[simp] theorem ev_nin (x y : D) : cmpD .nin x y s = (inD x y s).bind fun b => ret (!b) := rfl
@[simp] theorem ev_inL (x : D) (l : List D) (h : isData 8 x = true) (h2 : l.all (isData 7) = true) : inD x (.lst l) s = .ok (inL x l) s := by
  show (if _ then _ else _ : M Bool) s = _
  rw [if_pos (by rw [h, h2]; rfl)]; rfl
@[simp] theorem ev_inT (x : D) (l : List D) (h : isData 8 x = true) (h2 : l.all (isData 7) = true) : inD x (.tup l) s = .ok (inL x l) s := by
  show (if _ then _ else _ : M Bool) s = _
  rw [if_pos (by rw [h, h2]; rfl)]; rfl
@[simp] theorem ev_inK (x : D) (b : Bool) (l : List (D × D)) (h : isKey b x = true) : inD x (.dic b l) s = .ok (look x l).isSome s := by
  show (if _ then _ else _ : M Bool) s = _
  rw [if_pos h]; rfl
@[simp] theorem isNonD_non : isNonD .non = true := rfl
@[simp] theorem isNonD_str (x : Str) : isNonD (.str x) = false := rfl
@[simp] theorem isNonD_int (x : Int) : isNonD (.int x) = false := rfl
@[simp] theorem isNonD_bl (x : Bool) : isNonD (.bl x) = false := rfl
@[simp] theorem isNonD_tup (x : List D) : isNonD (.tup x) = false := rfl
@[simp] theorem isNonD_lst (x : List D) : isNonD (.lst x) = false := rfl
@[simp] theorem isNonD_dic (b : Bool) (x : List (D × D)) : isNonD (.dic b x) = false := rfl
@[simp] theorem isNonD_ins (b : Nat) (x : List D) : isNonD (.ins b x) = false := rfl
@[simp] theorem ev_tV : tV t e s = (t e s).bind fun b => ret (.d (.bl b)) := rfl
@[simp] theorem ev_asB (b : Bool) : asB (.d (.bl b)) s = .ok b s := rfl
@[simp] theorem ev_vT : vT f e s = (f e s).bind asB := rfl
@[simp] theorem ev_not : tNot t e s = (t e s).bind fun b => ret (!b) := rfl
@[simp] theorem ev_and : tAnd t u e s = (t e s).bind fun b => if b then u e else ret false := rfl
@[simp] theorem ev_or : tOr t u e s = (t e s).bind fun b => if b then ret true else u e := rfl
@[simp] theorem ev_if : dIf t f g e s = (t e s).bind fun b => if b then f e else g e := rfl
@[simp] theorem ev_chain (op op' : Cop) : tChainD op op' f g h e s = (f e s).bind fun v => bnd (g e) fun u => bnd (opB (cmpD op) v u) fun r => if r then bnd (h e) fun w => opB (cmpD op') u w else ret false := rfl
@[simp] theorem ev_tYs : tYs e s = .ok true s := rfl
@[simp] theorem ev_vAnd : vAnd f g e s = (f e s).bind fun v => bnd (asB v) fun b => if b then g e else ret (.d (.bl false)) := rfl
@[simp] theorem ev_vOr : vOr f g e s = (f e s).bind fun v => bnd (asB v) fun b => if b then ret (.d (.bl true)) else g e := rfl
@[simp] theorem ev_vNot : vNot f e s = (f e s).bind fun v => bnd (asB v) fun b => ret (.d (.bl (!b))) := rfl
end
/-! ### subscripts, attributes -/
section
variable (e : DEnv) (s : Sto) (f g h : DE) (t u : DT) (da : DA)
@[simp] theorem ev_ix : dIx f g e s = (f e s).bind fun v => bnd (g e) fun u => opD ixD v u := rfl
@[simp] theorem ev_optM {α : Type} (a : α) : optM (some a) s = .ok a s := rfl
@[simp] theorem ev_ixL (l : List D) (i : Int) : ixD (.lst l) (.int i) s = optM (atD l i) s := rfl
@[simp] theorem ev_ixT (l : List D) (i : Int) : ixD (.tup l) (.int i) s = optM (atD l i) s := rfl
@[simp] theorem ev_ixK (b : Bool) (l : List (D × D)) (k : D) (hk : isKey b k = true) : ixD (.dic b l) k s = optM (look k l) s := by
  show (if _ then _ else _ : M D) s = _
  rw [if_pos hk]
@[simp] theorem ev_fld (fld : Nat → Option Nat) : dFld fld f e s = (f e s).bind (getF fld) := rfl
@[simp] theorem ev_getF (fld : Nat → Option Nat) (c : Nat) (fs : List D) {i : Nat} (h : fld c = some i) : getF fld (.d (.ins c fs)) s = (optM fs[i]? s).bind fun x => ret (.d x) := by
  show (match fld c with
    | some i => bnd (optM fs[i]?) fun x => ret (.d x)
    | none => stk : M Val) s = _
  rw [h]
  rfl
/-! ### slices -/
@[simp] theorem ev_oNone : oNone e s = .ok none s := rfl
def oInt : D → M (Option Int)
  | .int i => ret (some i)
  | _ => stk
@[simp] theorem ev_oSome : oSome f e s = (f e s).bind fun v => bnd (plain v) oInt := rfl
@[simp] theorem ev_oInt (i : Int) : oInt (.int i) s = .ok (some i) s := rfl
@[simp] theorem ev_sl2 (lo hi : DO) : dSl2 f lo hi e s = (f e s).bind fun v => bnd (lo e) fun l => bnd (hi e) fun h => bnd (snap v) fun x => bnd (slD x l h) fun z => ret (.d z) := rfl
@[simp] theorem ev_slL (l : List D) (lo hi : Option Int) : slD (.lst l) lo hi s = .ok (.lst (cut l lo hi)) s := rfl
@[simp] theorem ev_slT (l : List D) (lo hi : Option Int) : slD (.tup l) lo hi s = .ok (.tup (cut l lo hi)) s := rfl
@[simp] theorem ev_slA (l : List Int) (lo hi : Option Int) : slD (.arr l) lo hi s = .ok (.lst ((cut l lo hi).map .int)) s := rfl
def revD : D → M Val
  | .lst l => ret (.d (.lst l.reverse))
  | .arr l => ret (.d (.lst (l.reverse.map .int)))
  | _ => stk
@[simp] theorem ev_rev : dRev f e s = (f e s).bind fun v => bnd (snap v) revD := rfl
@[simp] theorem ev_revL (l : List D) : revD (.lst l) s = .ok (.d (.lst l.reverse)) s := rfl
/-! ### builtins -/
@[simp] theorem ev_dB (k : List Val → M Val) : dB k da e s = (da e s).bind k := rfl
@[simp] theorem ev_one (k : D → M Val) (v : Val) : one k [v] s = (snap v s).bind k := rfl
@[simp] theorem ev_bLen (v : Val) : bLen [v] s = (snap v s).bind lenD := rfl
@[simp] theorem ev_lenL (l : List D) : lenD (.lst l) s = .ok (.d (.int (l.length : Nat))) s := rfl
@[simp] theorem ev_lenT (l : List D) : lenD (.tup l) s = .ok (.d (.int (l.length : Nat))) s := rfl
@[simp] theorem ev_lenA (l : List Int) : lenD (.arr l) s = .ok (.d (.int (l.length : Nat))) s := rfl
@[simp] theorem ev_lenD (b : Bool) (l : List (D × D)) : lenD (.dic b l) s = .ok (.d (.int (l.length : Nat))) s := rfl
@[simp] theorem ev_lenS (z : Str) (h : okS z = true) : lenD (.str z) s = .ok (.d (.int (z.length : Nat))) s := by
  show (if _ then _ else _ : M Val) s = _
  rw [if_pos h]; rfl
theorem bools_map {α : Type} (p : α → Bool) : ∀ l : List α, bools (l.map fun x => .bl (p x)) = some (l.map p)
  | [] => rfl
  | x :: r => by
    show (bools (r.map fun x => .bl (p x))).map (p x :: ·) = _
    rw [bools_map p r]
    rfl
theorem nums_map {α : Type} (p : α → Int) : ∀ l : List α, nums (l.map fun x => .int (p x)) = some (l.map p)
  | [] => rfl
  | x :: r => by
    show (nums (r.map fun x => .int (p x))).map (p x :: ·) = _
    rw [nums_map p r]
    rfl
@[simp] theorem ev_all {α : Type} (p : α → Bool) (l : List α) : bAll [.d (.lst (l.map fun x => .bl (p x)))] s = .ok (.d (.bl (l.all p))) s := by
  show bnd (optM (bools _)) _ s = _
  rw [bools_map]
  show Rs.ok (Val.d (.bl ((l.map p).all id))) s = _
  rw [List.all_map]
  rfl
@[simp] theorem ev_any {α : Type} (p : α → Bool) (l : List α) : bAny [.d (.lst (l.map fun x => .bl (p x)))] s = .ok (.d (.bl (l.any p))) s := by
  show bnd (optM (bools _)) _ s = _
  rw [bools_map]
  show Rs.ok (Val.d (.bl ((l.map p).any id))) s = _
  rw [List.any_map]
  rfl
@[simp] theorem ev_sum {α : Type} (p : α → Int) (l : List α) : bSum [.d (.lst (l.map fun x => .int (p x)))] s = .ok (.d (.int (l.map p).sum)) s := by
  show bnd (optM (nums _)) _ s = _
  rw [nums_map]
  rfl
@[simp] theorem ev_abs (i : Int) : bAbs [.d (.int i)] s = .ok (.d (.int (if i < 0 then -i else i))) s := rfl
@[simp] theorem ev_mkT (l : List D) : mkL true l s = .ok (.cell s.length) (s ++ [some (.lst l)]) := rfl
@[simp] theorem ev_mkF (l : List D) : mkL false l s = .ok (.d (.lst l)) s := rfl
@[simp] theorem ev_bList (k : Bool) (v : Val) : bList k [v] s = (snap v s).bind (listD k) := rfl
@[simp] theorem ev_listL (k : Bool) (l : List D) : listD k (.lst l) s = mkL k l s := rfl
@[simp] theorem ev_listT (k : Bool) (l : List D) : listD k (.tup l) s = mkL k l s := rfl
@[simp] theorem ev_listA (k : Bool) (l : List Int) : listD k (.arr l) s = mkL k (l.map .int) s := rfl
@[simp] theorem ev_listK (k b : Bool) (l : List (D × D)) : listD k (.dic b l) s = mkL k (l.map (·.1)) s := rfl
@[simp] theorem ev_listS (k : Bool) (z : Str) (h : okS z = true) : listD k (.str z) s = mkL k (chars z) s := by
  show (if _ then _ else _ : M Val) s = _
  rw [if_pos h]
@[simp] theorem ev_bTuple (v : Val) : bTuple [v] s = (snap v s).bind tupD := rfl
@[simp] theorem ev_tupL (l : List D) : tupD (.lst l) s = .ok (.d (.tup l)) s := rfl
@[simp] theorem ev_tupT (l : List D) : tupD (.tup l) s = .ok (.d (.tup l)) s := rfl
@[simp] theorem ev_isi (q : Tg → Option Bool) : dIsi q f e s = (f e s).bind fun v => bnd (tagV v) fun t => bnd (optM (q t)) fun b => ret (.d (.bl b)) := rfl
@[simp] theorem ev_tagV (x : D) : tagV (.d x) s = .ok (tagD x) s := rfl
@[simp] theorem tag_non : tagD .non = .non := rfl
@[simp] theorem tag_bl (x : Bool) : tagD (.bl x) = .bl := rfl
@[simp] theorem tag_int (x : Int) : tagD (.int x) = .int := rfl
@[simp] theorem tag_str (x : Str) : tagD (.str x) = .str := rfl
@[simp] theorem tag_tup (x : List D) : tagD (.tup x) = .tup := rfl
@[simp] theorem tag_lst (x : List D) : tagD (.lst x) = .lst := rfl
@[simp] theorem tag_dic (b : Bool) (x : List (D × D)) : tagD (.dic b x) = .dic := rfl
@[simp] theorem tag_ins (b : Nat) (x : List D) : tagD (.ins b x) = .ins b := rfl
/-! ### calls -/
@[simp] theorem ev_call (G : Gn) : dCallG G da e s = (da e s).bind fun vs => G vs [] := rfl
@[simp] theorem ev_own (G : Nat → Option Gn) : dOwn G f da e s = (f e s).bind fun v => bnd (clsV v) fun c => bnd (optM (G c)) fun g => bnd (da e) fun vs => g (v :: vs) [] := rfl
@[simp] theorem ev_clsV (c : Nat) (fs : List D) : clsV (.d (.ins c fs)) s = .ok c s := rfl
end
/-! ### statements -/
section
variable (e : DEnv) (s : Sto) (f g h : DE) (t u : DT) (da : DA) (a b : DS)
@[simp] theorem ev_sPass : sPass e s = .nx e s := rfl
@[simp] theorem ev_sSeq : sSeq a b e s = (a e s).seq b := by
  unfold sSeq Rt.seq
  cases a e s <;> rfl
@[simp] theorem ev_sSet (i : Nat) : sSet i f e s = (f e s).bindE e fun v s => .nx (e.set i (some v)) s := rfl
@[simp] theorem ev_sExpr : sExpr f e s = (f e s).bindE e fun _ s => .nx e s := rfl
@[simp] theorem ev_sRet : sRet f e s = (f e s).bindE e fun v s => .rt v s := rfl
@[simp] theorem ev_sRetN : sRetN e s = .rt (.d .non) s := rfl
@[simp] theorem ev_sIf : sIf t a b e s = (t e s).bindE e fun c s => if c then a e s else b e s := rfl
@[simp] theorem ev_sPar (is : List Nat) : sPar is da e s = (da e s).bindE e fun vs s => if vs.length = is.length then .nx (setAll e (is.zip vs)) s else .stuck := rfl
@[simp] theorem ev_setAll_nil : setAll e [] = e := rfl
@[simp] theorem ev_setAll_cons (i : Nat) (v : Val) (r : List (Nat × Val)) : setAll e ((i, v) :: r) = setAll (e.set i (some v)) r := rfl
def incX (e : DEnv) (i : Nat) (n : Int) : D → Sto → Rt
  | .int j, s => .nx (e.set i (some (.d (.int (j + n))))) s
  | _, _ => .stuck
@[simp] theorem ev_sInc (i : Nat) (n : Int) : sInc i n e s = (bnd (dVar i e) plain s).bindE e (incX e i n) := by
  unfold sInc
  rw [ev_bndE]
  congr 1
  funext x s
  cases x <;> rfl
@[simp] theorem ev_incX (i : Nat) (n j : Int) : incX e i n (.int j) s = .nx (e.set i (some (.d (.int (j + n))))) s := rfl
def unpX (e : DEnv) (is : List Nat) : D → Sto → Rt
  | .tup l, s => if l.length = is.length then .nx (setAll e (is.zip (l.map .d))) s else .stuck
  | _, _ => .stuck
@[simp] theorem ev_sUnp (is : List Nat) : sUnp is f e s = (bnd (f e) plain s).bindE e (unpX e is) := by
  unfold sUnp
  rw [ev_bndE]
  congr 1
  funext x s
  cases x <;> rfl
@[simp] theorem ev_unpX (is : List Nat) (l : List D) (h : l.length = is.length) : unpX e is (.tup l) s = .nx (setAll e (is.zip (l.map .d))) s := if_pos h
def frzX (e : DEnv) (i : Nat) : Option (Option Val) → Sto → Rt
  | some (some (.cell k)), s => frzV e i k s
  | some (some (.d _)), s => .nx e s
  | _, _ => .stuck
@[simp] theorem ev_sFrz (i : Nat) : sFrz i e s = frzX e i e[i]? s := by
  unfold sFrz frzX
  cases e[i]? with
  | none => rfl
  | some o =>
    cases o with
    | none => rfl
    | some v => cases v <;> rfl
@[simp] theorem ev_frzD (i : Nat) (x : D) : frzX e i (some (some (.d x))) s = .nx e s := rfl
@[simp] theorem ev_frzC (i k : Nat) : frzX e i (some (some (.cell k))) s = frzV e i k s := rfl
theorem frzV_lst (i k : Nat) (l : List D) (h : s[k]? = some (some (.lst l))) : frzV e i k s = .nx (e.set i (some (.d (.lst l)))) (s.set k none) := by
  unfold frzV
  rw [h]
theorem frzV_dic (i k : Nat) (b : Bool) (l : List (D × D)) (h : s[k]? = some (some (.dic b l))) : frzV e i k s = .nx (e.set i (some (.d (.dic b l)))) (s.set k none) := by
  unfold frzV
  rw [h]
/-! ### defs -/
def Rt.fin (n : Nat) : Rt → Rs Val
  | .nx _ s' => .ok (.d .non) (trunc n s')
  | .rt (.d x) s' => .ok (.d x) (trunc n s')
  | .rt (.cell k) s' => .ok (.cell k) s'
  | .exc x _ s' => .exc x (trunc n s')
  | _ => .stuck
theorem ev_fnD (ps ns : Nat) (args : List Val) (h : args.length = ps) : fnD ps ns a args s = (a (args.map some ++ List.replicate (ns - args.length) none) s).fin s.length := by
  unfold fnD
  rw [if_pos h]
  unfold Rt.fin
  cases a (args.map some ++ List.replicate (ns - args.length) none) s with
  | rt v s => cases v <;> rfl
  | _ => rfl
@[simp] theorem fin_nx (n : Nat) : (Rt.nx e s).fin n = .ok (.d .non) (trunc n s) := rfl
@[simp] theorem fin_rt (n : Nat) (x : D) : (Rt.rt (.d x) s).fin n = .ok (.d x) (trunc n s) := rfl
@[simp] theorem fin_exc (n : Nat) (x : Ex) : (Rt.exc x e s).fin n = .exc x (trunc n s) := rfl
@[simp] theorem fin_rtC (n k : Nat) : (Rt.rt (.cell k) s).fin n = .ok (.cell k) s := rfl
@[simp] theorem ev_def1 (n : Nat) (x : Val) : posG (fnD 1 n a) [] [x] [] s = (a (some x :: List.replicate (n - 1) none) s).fin s.length := ev_fnD s a 1 n [x] rfl
@[simp] theorem ev_def2 (n : Nat) (x y : Val) : posG (fnD 2 n a) [] [x, y] [] s = (a (some x :: some y :: List.replicate (n - 2) none) s).fin s.length := ev_fnD s a 2 n [x, y] rfl
@[simp] theorem ev_def3 (n : Nat) (x y z : Val) : posG (fnD 3 n a) [] [x, y, z] [] s = (a (some x :: some y :: some z :: List.replicate (n - 3) none) s).fin s.length := ev_fnD s a 3 n [x, y, z] rfl
@[simp] theorem ev_def4 (n : Nat) (x y z t : Val) : posG (fnD 4 n a) [] [x, y, z, t] [] s = (a (some x :: some y :: some z :: some t :: List.replicate (n - 4) none) s).fin s.length := ev_fnD s a 4 n [x, y, z, t] rfl
theorem ev_pos (g : List Val → M Val) (ds args : List Val) : posG g ds args [] s = g (args ++ ds) s := rfl
/-- all that a cell refers to stands -/
def Wf (st : Sto) : Prop := st.all (celOk st.length) = true
theorem celOk_mono {m n : Nat} (h : m ≤ n) : ∀ {c : Option Cel}, celOk m c = true → celOk n c = true
  | none, _ => rfl
  | some (.lst _), _ => rfl
  | some (.dic _ _), _ => rfl
  | some (.ins c fs), q => by
    unfold celOk at q ⊢
    rw [List.all_eq_true] at q ⊢
    intro p hp
    have := q p hp
    cases z : p.2 with
    | d x => rfl
    | cell k =>
      rw [z] at this
      have := of_decide_eq_true this
      exact decide_eq_true (by omega)
variable {s}
theorem wf_nil : Wf [] := rfl
theorem Wf.lst (h : Wf s) (l : List D) : Wf (s ++ [some (.lst l)]) := by
  unfold Wf at h ⊢
  rw [List.all_append, Bool.and_eq_true, List.all_eq_true]
  refine ⟨fun c hc => celOk_mono (by simp) (List.all_eq_true.mp h c hc), rfl⟩
theorem Wf.dic (h : Wf s) (b : Bool) (l : List (D × D)) : Wf (s ++ [some (.dic b l)]) := by
  unfold Wf at h ⊢
  rw [List.all_append, Bool.and_eq_true, List.all_eq_true]
  refine ⟨fun c hc => celOk_mono (by simp) (List.all_eq_true.mp h c hc), rfl⟩
theorem Wf.none (h : Wf s) : Wf (s ++ [Option.none]) := by
  unfold Wf at h ⊢
  rw [List.all_append, Bool.and_eq_true, List.all_eq_true]
  refine ⟨fun c hc => celOk_mono (by simp) (List.all_eq_true.mp h c hc), rfl⟩
theorem take_len (s r : Sto) : (s ++ r).take s.length = s := by simp
theorem trunc_self (h : Wf s) : trunc s.length s = s := by
  unfold trunc
  rw [List.take_length]
  exact if_pos h
theorem trunc_app (h : Wf s) (r : Sto) : trunc s.length (s ++ r) = s := by
  unfold trunc
  rw [take_len]
  exact if_pos h
end
end Fb
/-! FbEw -/
/-! FbEw: loops and comprehensions reckoned. -/
namespace Fb
open PySem
/-! ### sources -/
section
variable (e : DEnv) (s : Sto) (f : DE) (da : DA)
@[simp] theorem ev_iSeq : iSeq f e s = (f e s).bind srcOf := rfl
@[simp] theorem ev_srcL (l : List D) : srcOf (.d (.lst l)) s = .ok (.its l) s := rfl
@[simp] theorem ev_srcT (l : List D) : srcOf (.d (.tup l)) s = .ok (.its l) s := rfl
@[simp] theorem ev_srcA (l : List Int) : srcOf (.d (.arr l)) s = .ok (.its (l.map .int)) s := rfl
@[simp] theorem ev_srcD (b : Bool) (l : List (D × D)) : srcOf (.d (.dic b l)) s = .ok (.its (l.map (·.1))) s := rfl
@[simp] theorem ev_srcS (z : Str) : srcOf (.d (.str z)) s = .ok (.its (chars z)) s := rfl
def itemsV : Val → M Src
  | .d (.dic _ l) => ret (.its (pairs l))
  | _ => stk
@[simp] theorem ev_iItems : iItems f e s = (f e s).bind itemsV := by
  unfold iItems
  rw [ev_bnd]
  congr 1
@[simp] theorem ev_itemsV (b : Bool) (l : List (D × D)) : itemsV (.d (.dic b l)) s = .ok (.its (pairs l)) s := rfl
@[simp] theorem ev_iRange1 : iRange1 da e s = (da e s).bind rng1 := rfl
@[simp] theorem ev_iRange2 : iRange2 da e s = (da e s).bind rng2 := rfl
@[simp] theorem ev_rng1 (j : Int) (h : -(2 ^ 62) ≤ j ∧ j < 2 ^ 62) : rng1 [.d (.int j)] s = .ok (.its (upto 0 j.toNat)) s := by
  show (if _ then _ else _ : M Src) s = _
  rw [if_pos h]; rfl
@[simp] theorem ev_rng2 (i j : Int) (h : -(2 ^ 62) ≤ i ∧ i < 2 ^ 62 ∧ -(2 ^ 62) ≤ j ∧ j < 2 ^ 62) : rng2 [.d (.int i), .d (.int j)] s = .ok (.its (upto i (j - i).toNat)) s := by
  show (if _ then _ else _ : M Src) s = _
  rw [if_pos h]; rfl
@[simp] theorem ev_iEnum : iEnum da e s = (da e s).bind enumM := rfl
@[simp] theorem ev_enumL (l : List D) : enumM [.d (.lst l)] s = .ok (.its (enumF 0 l)) s := rfl
/-! ### targets -/
@[simp] theorem ev_tgN (i : Nat) (d : D) : tgN i d e = some (e.set i (some (.d d))) := rfl
@[simp] theorem ev_tgT (is : List Nat) (l : List D) (h : l.length = is.length) : tgT is (.tup l) e = some (setAll e (is.zip (l.map .d))) := if_pos h
@[simp] theorem ev_wipe_nil : wipeD e [] = e := rfl
@[simp] theorem ev_wipe_cons (v : Nat) (vs : List Nat) : wipeD e (v :: vs) = (wipeD e vs).set v none := rfl
end
/-! ### for over items that stand -/
def forStep (g : DG) (p : DS) (d : D) (e : DEnv) (s : Sto) : Rt := match g d e with
  | none => .stuck
  | some e1 => p e1 s
def forL (g : DG) (p : DS) : List D → DS
  | [] => fun e s => .nx e s
  | d :: r => fun e s => match forStep g p d e s with
    | .nx e' s' => forL g p r e' s'
    | .ct e' s' => forL g p r e' s'
    | .bk e' s' => .nx e' s'
    | r => r
theorem forD_its (g : DG) (p : DS) (l : List D) : ∀ (n i : Nat) (e : DEnv) (s : Sto), (l.drop i).length < n → forD g p n (.its l) i e s = forL g p (l.drop i) e s
  | 0, _, _, _, h => absurd h (Nat.not_lt_zero _)
  | n + 1, i, e, s, h => by
    unfold forD
    show (match some l[i]? with | none => Rt.stuck | some none => .nx e s | some (some d) => _) = _
    by_cases hi : i < l.length
    · rw [List.getElem?_eq_getElem hi, List.drop_eq_getElem_cons hi]
      have hd : (l.drop (i + 1)).length < n := by
        rw [List.length_drop] at h ⊢
        omega
      show (match g l[i] e with | none => Rt.stuck | some e1 => match p e1 s with | .nx e' s' => forD g p n (.its l) (i + 1) e' s' | .ct e' s' => forD g p n (.its l) (i + 1) e' s' | .bk e' s' => .nx e' s' | r => r) = (match forStep g p l[i] e s with | .nx e' s' => forL g p (l.drop (i + 1)) e' s' | .ct e' s' => forL g p (l.drop (i + 1)) e' s' | .bk e' s' => .nx e' s' | r => r)
      unfold forStep
      cases g l[i] e with
      | none => rfl
      | some e1 =>
        show (match p e1 s with | .nx e' s' => forD g p n (.its l) (i + 1) e' s' | .ct e' s' => forD g p n (.its l) (i + 1) e' s' | .bk e' s' => .nx e' s' | r => r) = (match p e1 s with | .nx e' s' => forL g p (l.drop (i + 1)) e' s' | .ct e' s' => forL g p (l.drop (i + 1)) e' s' | .bk e' s' => .nx e' s' | r => r)
        cases p e1 s with
        | nx e' s' => exact forD_its g p l n (i + 1) e' s' hd
        | ct e' s' => exact forD_its g p l n (i + 1) e' s' hd
        | _ => rfl
    · rw [List.getElem?_eq_none (Nat.le_of_not_lt hi), List.drop_eq_nil_of_le (Nat.le_of_not_lt hi)]
      rfl
def forR (g : DG) (p : DS) (e : DEnv) : Src → Sto → Rt
  | .its l, s => forL g p l e s
  | .cel k, s => forD g p (fuelOf (.cel k)) (.cel k) 0 e s
@[simp] theorem ev_forS (src : DI) (g : DG) (p : DS) (e : DEnv) (s : Sto) : forS src g p e s = (src e s).bindE e (forR g p e) := by
  unfold forS
  rw [ev_bndE]
  congr 1
  funext x s
  cases x with
  | cel k => rfl
  | its l => exact forD_its g p l _ 0 e s (by show l.length < l.length + 1; omega)
@[simp] theorem ev_forR (g : DG) (p : DS) (e : DEnv) (l : List D) (s : Sto) : forR g p e (.its l) s = forL g p l e s := rfl
theorem ev_forL_nil (g : DG) (p : DS) (e : DEnv) (s : Sto) : forL g p [] e s = .nx e s := rfl
/-- every turn goes on: a fold -/
theorem forL_fold {α β : Type} {g : DG} {p : DS} {enc : β → D} (I : α → DEnv → Sto → Prop) (f : α → β → α) : ∀ (l : List β) (a : α) (e : DEnv) (s : Sto), I a e s →
    (∀ a b e s, b ∈ l → I a e s → ∃ e' s', forStep g p (enc b) e s = .nx e' s' ∧ I (f a b) e' s') → ∃ e' s', forL g p (l.map enc) e s = .nx e' s' ∧ I (l.foldl f a) e' s'
  | [], a, e, s, h, _ => ⟨e, s, rfl, h⟩
  | b :: r, a, e, s, h, st => by
    obtain ⟨e1, s1, h1, h2⟩ := st a b e s (List.mem_cons_self ..) h
    obtain ⟨e2, s2, h3, h4⟩ := forL_fold I f r (f a b) e1 s1 h2 fun a b e s hb => st a b e s (List.mem_cons_of_mem _ hb)
    refine ⟨e2, s2, ?_, h4⟩
    rw [List.map_cons]
    show (match forStep g p (enc b) e s with | .nx e' s' => forL g p (r.map enc) e' s' | .ct e' s' => forL g p (r.map enc) e' s' | .bk e' s' => .nx e' s' | r => r) = _
    rw [h1]
    exact h3
/-- a search: the first turn that fails hands back v -/
theorem forL_all {β : Type} {g : DG} {p : DS} {enc : β → D} (I : DEnv → Sto → Prop) (q : β → Bool) {v : Val} : ∀ (l : List β) (e : DEnv) (s : Sto), I e s →
    (∀ b e s, b ∈ l → I e s → (q b = true → ∃ e' s', forStep g p (enc b) e s = .nx e' s' ∧ I e' s') ∧ (q b = false → ∃ s', forStep g p (enc b) e s = .rt v s' ∧ ∃ e', I e' s')) →
    (l.all q = true → ∃ e' s', forL g p (l.map enc) e s = .nx e' s' ∧ I e' s') ∧ (l.all q = false → ∃ s', forL g p (l.map enc) e s = .rt v s' ∧ ∃ e', I e' s')
  | [], e, s, h, _ => ⟨fun _ => ⟨e, s, rfl, h⟩, fun z => nomatch z⟩
  | b :: r, e, s, h, st => by
    obtain ⟨h1, h2⟩ := st b e s (List.mem_cons_self ..) h
    have key : ∀ e s, forL g p ((b :: r).map enc) e s = (match forStep g p (enc b) e s with | .nx e' s' => forL g p (r.map enc) e' s' | .ct e' s' => forL g p (r.map enc) e' s' | .bk e' s' => .nx e' s' | r => r) := fun e s => rfl
    cases z : q b with
    | false =>
      obtain ⟨s', h3, h4⟩ := h2 z
      refine ⟨fun y => ?_, fun _ => ⟨s', ?_, h4⟩⟩
      · rw [List.all_cons, z] at y; cases y
      · rw [key, h3]
    | true =>
      obtain ⟨e1, s1, h3, h4⟩ := h1 z
      have ih := forL_all I q r e1 s1 h4 fun b e s hb => st b e s (List.mem_cons_of_mem _ hb)
      rw [List.all_cons, z, Bool.true_and]
      refine ⟨fun y => ?_, fun y => ?_⟩
      · obtain ⟨e2, s2, h5, h6⟩ := ih.1 y
        exact ⟨e2, s2, by rw [key, h3]; exact h5, h6⟩
      · obtain ⟨s2, h5, h6⟩ := ih.2 y
        exact ⟨s2, by rw [key, h3]; exact h5, h6⟩
/-! ### comprehensions -/
def lcL (g : DG) (t : DT) (ad : DEnv → M Unit) (e : DEnv) : List D → M Unit
  | [] => ret ()
  | d :: r => match g d e with
    | none => stk
    | some e1 => bnd (noX (t e1)) fun b => if b then bnd (ad e1) fun _ => lcL g t ad e r else lcL g t ad e r
theorem lcD_its (g : DG) (t : DT) (ad : DEnv → M Unit) (e : DEnv) (l : List D) : ∀ (n i : Nat) (s : Sto), (l.drop i).length < n → lcD g t ad n (.its l) i e s = lcL g t ad e (l.drop i) s
  | 0, _, _, h => absurd h (Nat.not_lt_zero _)
  | n + 1, i, s, h => by
    unfold lcD
    show turnM g t _ _ e (some l[i]?) s = _
    by_cases hi : i < l.length
    · rw [List.getElem?_eq_getElem hi, List.drop_eq_getElem_cons hi]
      have hd : (l.drop (i + 1)).length < n := by
        rw [List.length_drop] at h ⊢
        omega
      have ih : lcD g t ad n (.its l) (i + 1) e = lcL g t ad e (l.drop (i + 1)) := funext fun s => lcD_its g t ad e l n (i + 1) s hd
      show (match g l[i] e with | none => stk | some e1 => bnd (noX (t e1)) fun b => if b then bnd (ad e1) fun _ => lcD g t ad n (.its l) (i + 1) e else lcD g t ad n (.its l) (i + 1) e : M Unit) s = _
      rw [ih]
      rfl
    · rw [List.getElem?_eq_none (Nat.le_of_not_lt hi), List.drop_eq_nil_of_le (Nat.le_of_not_lt hi)]
      rfl
theorem noX_ok {α : Type} {m : M α} {s s' : Sto} {a : α} (h : m s = .ok a s') : noX m s = .ok a s' := by
  unfold noX
  rw [h]
theorem pushC_at (s : Sto) (l : List D) (x : D) (h : l.length < 1000000) : pushC s.length x (s ++ [some (.lst l)]) = .ok () (s ++ [some (.lst (l ++ [x]))]) := by
  unfold pushC
  rw [List.getElem?_append_right (Nat.le_refl _), Nat.sub_self]
  show (if l.length < 1000000 then _ else _ : Rs Unit) = _
  rw [if_pos h, List.set_append_right _ _ (Nat.le_refl _), Nat.sub_self]
  rfl
theorem putC_at (s : Sto) (b : Bool) (l : List (D × D)) (x y : D) (hk : isKey b x = true) (h : l.length < 1000000) : putC s.length x y (s ++ [some (.dic b l)]) = .ok () (s ++ [some (.dic b (put x y l))]) := by
  unfold putC
  rw [List.getElem?_append_right (Nat.le_refl _), Nat.sub_self]
  show (if isKey b x ∧ l.length < 1000000 then _ else _ : Rs Unit) = _
  rw [if_pos ⟨hk, h⟩, List.set_append_right _ _ (Nat.le_refl _), Nat.sub_self]
  rfl
section
variable {α : Type} {g : DG} {t : DT} {el : DE} {e : DEnv} {E : α → DEnv} {p : α → Bool} {enc : α → D} {s : Sto}
theorem lcL_list (fd : α → D) (hw : Wf s) : ∀ (l : List α) (acc : List D), acc.length + l.length ≤ 1000000 →
    (∀ a ∈ l, g (enc a) e = some (E a)) → (∀ a ∈ l, ∀ s', Wf s' → t (E a) s' = .ok (p a) s') → (∀ a ∈ l, p a = true → ∀ s', Wf s' → el (E a) s' = .ok (.d (fd a)) s') →
    lcL g t (addL el s.length) e (l.map enc) (s ++ [some (.lst acc)]) = .ok () (s ++ [some (.lst (acc ++ (l.filter p).map fd))])
  | [], acc, _, _, _, _ => by simp [lcL]
  | a :: r, acc, hn, hg, ht, he => by
    rw [List.length_cons] at hn
    have w := hw.lst acc
    have h1 := hg a (List.mem_cons_self ..)
    have h2 := ht a (List.mem_cons_self ..) _ w
    have ih := fun acc h => lcL_list fd hw r acc h (fun a ha => hg a (List.mem_cons_of_mem _ ha)) (fun a ha => ht a (List.mem_cons_of_mem _ ha)) (fun a ha => he a (List.mem_cons_of_mem _ ha))
    rw [List.map_cons]
    show (match g (enc a) e with | none => stk | some e1 => bnd (noX (t e1)) fun b => if b then bnd (addL el s.length e1) fun _ => lcL g t (addL el s.length) e (r.map enc) else lcL g t (addL el s.length) e (r.map enc) : M Unit) _ = _
    rw [h1]
    show bnd (noX (t (E a))) _ _ = _
    rw [ev_bnd, noX_ok h2, bind_ok]
    cases z : p a with
    | false =>
      rw [if_neg Bool.false_ne_true, ih acc (by omega), List.filter_cons_of_neg (by rw [z]; exact Bool.false_ne_true)]
    | true =>
      have h3 := he a (List.mem_cons_self ..) z _ w
      rw [if_pos rfl]
      show bnd (bnd (noX (el (E a))) fun v => bnd (plain v) fun x => pushC s.length x) _ _ = _
      rw [ev_bnd, ev_bnd, noX_ok h3, bind_ok, ev_bnd, ev_plain, bind_ok, pushC_at _ _ _ (by omega), bind_ok, ih _ (by rw [List.length_append]; simp; omega), List.filter_cons_of_pos z]
      simp
theorem dropL_at (hw : Wf s) (l : List D) : dropL s.length (s ++ [some (.lst l)]) = .ok (.d (.lst l)) s := by
  unfold dropL
  rw [List.getElem?_append_right (Nat.le_refl _), Nat.sub_self]
  show (if _ then _ else _ : Rs Val) = _
  rw [take_len]
  exact if_pos hw
theorem dropTo_dic (hw : Wf s) (b : Bool) (l : List (D × D)) : dropTo s.length (s ++ [some (.dic b l)]) = .ok (.d (.dic b l)) s := by
  unfold dropTo
  rw [List.getElem?_append_right (Nat.le_refl _), Nat.sub_self]
  show (if _ then _ else _ : Rs Val) = _
  rw [take_len]
  exact if_pos hw
theorem comp_its {src : DI} {l : List D} {c : Cel} {ad : Nat → DEnv → M Unit} {vs : List Nat} {fin : Nat → M Val} {s1 : Sto} (h : src e s = .ok (.its l) s1) :
    comp src g t c ad vs fin e s = (lcL g t (ad s1.length) (wipeD e vs) l (s1 ++ [some c])).bind fun _ => fin s1.length := by
  unfold comp
  rw [ev_bnd, h, bind_ok]
  show bnd (lcD g t (ad s1.length) (fuelOf (.its l)) (.its l) 0 (wipeD e vs)) _ (s1 ++ [some c]) = _
  rw [ev_bnd]
  rw [lcD_its g t (ad s1.length) (wipeD e vs) l _ 0 _ (by show l.length < l.length + 1; omega)]
  rfl
/-- a list comprehension over items that stand -/
theorem ev_dLc {src : DI} {vs : List Nat} (l : List α) (fd : α → D) (hs : src e s = .ok (.its (l.map enc)) s) (hw : Wf s) (hn : l.length ≤ 1000000)
    (hg : ∀ a ∈ l, g (enc a) (wipeD e vs) = some (E a)) (ht : ∀ a ∈ l, ∀ s', Wf s' → t (E a) s' = .ok (p a) s') (he : ∀ a ∈ l, p a = true → ∀ s', Wf s' → el (E a) s' = .ok (.d (fd a)) s') :
    dLc src g t el vs false e s = .ok (.d (.lst ((l.filter p).map fd))) s := by
  unfold dLc
  rw [comp_its hs, lcL_list fd hw l [] (by simpa using hn) hg ht he, bind_ok, List.nil_append]
  exact dropL_at hw _
theorem ev_dLcK {src : DI} {vs : List Nat} (l : List α) (fd : α → D) (hs : src e s = .ok (.its (l.map enc)) s) (hw : Wf s) (hn : l.length ≤ 1000000)
    (hg : ∀ a ∈ l, g (enc a) (wipeD e vs) = some (E a)) (ht : ∀ a ∈ l, ∀ s', Wf s' → t (E a) s' = .ok (p a) s') (he : ∀ a ∈ l, p a = true → ∀ s', Wf s' → el (E a) s' = .ok (.d (fd a)) s') :
    dLc src g t el vs true e s = .ok (.cell s.length) (s ++ [some (.lst ((l.filter p).map fd))]) := by
  unfold dLc
  rw [comp_its hs, lcL_list fd hw l [] (by simpa using hn) hg ht he, bind_ok, List.nil_append]
  rfl
theorem lcL_dict {ky vl : DE} (b : Bool) (kf vf : α → D) (hw : Wf s) : ∀ (l : List α) (acc : List (D × D)), acc.length + l.length ≤ 1000000 →
    (∀ a ∈ l, g (enc a) e = some (E a)) → (∀ a ∈ l, ∀ s', Wf s' → t (E a) s' = .ok (p a) s') → (∀ a ∈ l, p a = true → ∀ s', Wf s' → ky (E a) s' = .ok (.d (kf a)) s') → (∀ a ∈ l, p a = true → ∀ s', Wf s' → vl (E a) s' = .ok (.d (vf a)) s') →
    (∀ a ∈ l, isKey b (kf a) = true) →
    lcL g t (addD ky vl s.length) e (l.map enc) (s ++ [some (.dic b acc)]) = .ok () (s ++ [some (.dic b (putAll acc ((l.filter p).map fun a => (kf a, vf a))))])
  | [], acc, _, _, _, _, _, _ => by simp [lcL, putAll]
  | a :: r, acc, hn, hg, ht, hk, hv, hq => by
    rw [List.length_cons] at hn
    have w := hw.dic b acc
    have h1 := hg a (List.mem_cons_self ..)
    have h2 := ht a (List.mem_cons_self ..) _ w
    have ih := fun acc h => lcL_dict b kf vf hw r acc h (fun a ha => hg a (List.mem_cons_of_mem _ ha)) (fun a ha => ht a (List.mem_cons_of_mem _ ha)) (fun a ha => hk a (List.mem_cons_of_mem _ ha)) (fun a ha => hv a (List.mem_cons_of_mem _ ha)) (fun a ha => hq a (List.mem_cons_of_mem _ ha))
    have hlen : ∀ (k v : D) (acc : List (D × D)), (put k v acc).length ≤ acc.length + 1 := fun k v acc => by
      unfold put
      split
      · rw [List.length_map]; omega
      · simp
    rw [List.map_cons]
    show (match g (enc a) e with | none => stk | some e1 => bnd (noX (t e1)) fun b => if b then bnd (addD ky vl s.length e1) fun _ => lcL g t (addD ky vl s.length) e (r.map enc) else lcL g t (addD ky vl s.length) e (r.map enc) : M Unit) _ = _
    rw [h1]
    show bnd (noX (t (E a))) _ _ = _
    rw [ev_bnd, noX_ok h2, bind_ok]
    cases z : p a with
    | false =>
      rw [if_neg Bool.false_ne_true, ih acc (by omega), List.filter_cons_of_neg (by rw [z]; exact Bool.false_ne_true)]
    | true =>
      have h3 := hk a (List.mem_cons_self ..) z _ w
      have h4 := hv a (List.mem_cons_self ..) z _ w
      rw [if_pos rfl]
      show bnd (bnd (noX (ky (E a))) fun v => bnd (noX (vl (E a))) fun u => bnd (plain v) fun x => bnd (plain u) fun y => putC s.length x y) _ _ = _
      rw [ev_bnd, ev_bnd, noX_ok h3, bind_ok, ev_bnd, noX_ok h4, bind_ok, ev_bnd, ev_plain, bind_ok, ev_bnd, ev_plain, bind_ok, putC_at _ _ _ _ _ (hq a (List.mem_cons_self ..)) (by omega), bind_ok, ih _ (by have := hlen (kf a) (vf a) acc; omega), List.filter_cons_of_pos z]
      rfl
theorem ev_dDc {src : DI} {ky vl : DE} {vs : List Nat} (b : Bool) (l : List α) (kf vf : α → D) (hs : src e s = .ok (.its (l.map enc)) s) (hw : Wf s) (hn : l.length ≤ 1000000)
    (hg : ∀ a ∈ l, g (enc a) (wipeD e vs) = some (E a)) (ht : ∀ a ∈ l, ∀ s', Wf s' → t (E a) s' = .ok (p a) s') (hk : ∀ a ∈ l, p a = true → ∀ s', Wf s' → ky (E a) s' = .ok (.d (kf a)) s') (hv : ∀ a ∈ l, p a = true → ∀ s', Wf s' → vl (E a) s' = .ok (.d (vf a)) s') (hq : ∀ a ∈ l, isKey b (kf a) = true) :
    dDc b src g t ky vl vs e s = .ok (.d (.dic b (putAll [] ((l.filter p).map fun a => (kf a, vf a))))) s := by
  unfold dDc
  rw [comp_its hs, lcL_dict b kf vf hw l [] (by simpa using hn) hg ht hk hv hq, bind_ok]
  exact dropTo_dic hw _ _
end
end Fb
/-! FpB -/
/-! FpB: boards as plain data; what the program's defs answer. -/
namespace Pg
open PySem Fb
abbrev Mv := Str × Str
structure Fl where
  side : Int
  aims : List Str
  goal : Bool
deriving DecidableEq, Inhabited
structure Bd where
  lines : List (Str × Fl)
  start : Str
  fees : List (Mv × Int)
deriving DecidableEq, Inhabited
def eN (x : Str) : D := .str x
def eF (f : Fl) : D := .ins 0 [.int f.side, .tup (f.aims.map eN), .bl f.goal]
def eM (m : Mv) : D := .tup [.str m.1, .str m.2]
def eS (s : List Mv) : D := .tup (s.map eM)
def eLn (l : List (Str × Fl)) : D := .dic false (l.map fun p => (eN p.1, eF p.2))
def eFe (l : List (Mv × Int)) : D := .dic true (l.map fun p => (eM p.1, .int p.2))
def eB (b : Bd) : D := .ins 1 [eLn b.lines, eN b.start, eFe b.fees]
@[simp] theorem tup_eM (x y : Str) : D.tup [eN x, eN y] = eM (x, y) := rfl
def Nm (x : Str) : Prop := strOk' x = true
def Bd.names (b : Bd) : List Str := b.lines.map (·.1)
def Bd.moves (b : Bd) : List Mv := b.fees.map (·.1)
def Bd.fl (b : Bd) (n : Str) : Fl := (b.lines.lookup n).getD default
def letters : Str := "abcdefghijklmnopqrstuvwxyz"
def isLet (c : Nat) : Bool := letters.cps.toList.contains c
def isNm (x : Str) : Bool := decide ((1 : Int) ≤ x.length) && (decide ((x.length : Int) ≤ 8) && x.cps.toList.all isLet)
theorem letters_lt : ∀ c ∈ letters.cps.toList, c < 0x110000 := by decide +kernel
theorem isNm_nm {x : Str} (h : isNm x = true) : Nm x := by
  unfold isNm at h
  rw [Bool.and_eq_true, Bool.and_eq_true, List.all_eq_true] at h
  unfold Nm strOk'
  rw [Array.all_eq_true_iff_forall_mem]
  intro c hc
  have := h.2.2 c (by simpa using hc)
  unfold isLet at this
  rw [List.contains_iff_mem] at this
  simpa using letters_lt c this
theorem isNm_len {x : Str} (h : isNm x = true) : okS x = true := by
  unfold isNm at h
  rw [Bool.and_eq_true, Bool.and_eq_true] at h
  have h1 : (x.length : Int) ≤ 8 := of_decide_eq_true h.2.1
  have h2 : x.length ≤ 1000000 := by omega
  unfold okS
  exact decide_eq_true h2
structure OkB (b : Bd) : Prop where
  nd : b.names.Nodup
  vn : ∀ n ∈ b.names, isNm n = true
  closed : ∀ n ∈ b.names, ∀ a ∈ (b.fl n).aims, a ∈ b.names
  aims : ∀ n ∈ b.names, (b.fl n).aims.Nodup
  side : ∀ n ∈ b.names, (b.fl n).side = 1 ∨ (b.fl n).side = 2
  start : b.start ∈ b.names
  mnd : b.moves.Nodup
  mv : ∀ m ∈ b.moves, m.1 ∈ b.names ∧ m.2 ∈ (b.fl m.1).aims
  cost : ∀ p ∈ b.fees, 1 ≤ p.2 ∧ p.2 ≤ 9
  len : b.lines.length ≤ 8
  mlen : b.fees.length ≤ 6
theorem OkB.nm {b : Bd} (ok : OkB b) : ∀ n ∈ b.names, Nm n := fun n hn => isNm_nm (ok.vn n hn)
def MOk (m : Mv) : Prop := Nm m.1 ∧ Nm m.2
def SOk (s : List Mv) : Prop := ∀ m ∈ s, MOk m
/-! ### trees of names, moves -/
@[simp] theorem isData_str (n : Nat) (x : Str) : isData (n + 1) (.str x) = strOk' x := rfl
@[simp] theorem isData_int (n : Nat) (x : Int) : isData (n + 1) (.int x) = true := rfl
@[simp] theorem isData_bl (n : Nat) (x : Bool) : isData (n + 1) (.bl x) = true := rfl
@[simp] theorem isData_non (n : Nat) : isData (n + 1) .non = true := rfl
@[simp] theorem isData_tup (n : Nat) (l : List D) : isData (n + 1) (.tup l) = l.all (isData n) := rfl
@[simp] theorem isData_lst (n : Nat) (l : List D) : isData (n + 1) (.lst l) = l.all (isData n) := rfl
theorem isData_eN {n : Nat} {x : Str} (h : Nm x) : isData (n + 1) (eN x) = true := h
theorem isData_eM {n : Nat} {m : Mv} (h : MOk m) : isData (n + 2) (eM m) = true := by
  show (List.all _ _) = true
  simp [isData_str, show strOk' m.1 = true from h.1, show strOk' m.2 = true from h.2]
theorem all_names {n : Nat} {l : List Str} (h : ∀ x ∈ l, Nm x) : (l.map eN).all (isData (n + 1)) = true := by
  rw [List.all_map, List.all_eq_true]
  exact fun x hx => isData_eN (h x hx)
theorem all_moves {n : Nat} {l : List Mv} (h : SOk l) : (l.map eM).all (isData (n + 2)) = true := by
  rw [List.all_map, List.all_eq_true]
  exact fun x hx => isData_eM (h x hx)
theorem eqD_eN (x y : Str) : eqD (eN x) (eN y) = decide (x = y) := by
  show (x == y) = _
  rw [Bool.eq_iff_iff]; simp
theorem eqD_eM (x y : Mv) : eqD (eM x) (eM y) = decide (x = y) := by
  show eqL [.str x.1, .str x.2] [.str y.1, .str y.2] = _
  simp only [eqL, eqD, Bool.and_true]
  rw [Bool.eq_iff_iff]
  simp [Prod.ext_iff]
theorem inL_names (x : Str) : ∀ l : List Str, inL (eN x) (l.map eN) = decide (x ∈ l)
  | [] => by simp [inL]
  | y :: r => by
    rw [List.map_cons]
    show (eqD (eN y) (eN x) || inL (eN x) (r.map eN)) = _
    rw [eqD_eN, inL_names x r, ← Bool.decide_or]
    exact decide_eq_decide.mpr (by rw [List.mem_cons, eq_comm])
theorem inL_moves (x : Mv) : ∀ l : List Mv, inL (eM x) (l.map eM) = decide (x ∈ l)
  | [] => by simp [inL]
  | y :: r => by
    rw [List.map_cons]
    show (eqD (eM y) (eM x) || inL (eM x) (r.map eM)) = _
    rw [eqD_eM, inL_moves x r, ← Bool.decide_or]
    exact decide_eq_decide.mpr (by rw [List.mem_cons, eq_comm])
theorem keyEq_eN (x y : Str) : keyEq (eN x) (eN y) = decide (x = y) := by
  show (x == y) = _
  rw [Bool.eq_iff_iff]; simp
theorem keyEq_eM (x y : Mv) : keyEq (eM x) (eM y) = decide (x = y) := by
  show atomsEq [.str x.1, .str x.2] [.str y.1, .str y.2] = _
  simp only [atomsEq, atomEq, Bool.and_true]
  rw [Bool.eq_iff_iff]
  simp [Prod.ext_iff]
theorem look_names {β : Type} (enc : β → D) (x : Str) : ∀ l : List (Str × β), look (eN x) (l.map fun p => (eN p.1, enc p.2)) = (l.lookup x).map enc
  | [] => rfl
  | (y, b) :: r => by
    rw [List.map_cons]
    show (if keyEq (eN y) (eN x) then some (enc b) else look (eN x) (r.map fun p => (eN p.1, enc p.2))) = _
    rw [keyEq_eN, look_names enc x r, List.lookup_cons]
    by_cases h : y = x
    · subst h; simp
    · have h2 : (x == y) = false := by simp [Ne.symm h]
      rw [h2]
      simp [h]
theorem look_moves {β : Type} (enc : β → D) (x : Mv) : ∀ l : List (Mv × β), look (eM x) (l.map fun p => (eM p.1, enc p.2)) = (l.lookup x).map enc
  | [] => rfl
  | (y, b) :: r => by
    rw [List.map_cons]
    show (if keyEq (eM y) (eM x) then some (enc b) else look (eM x) (r.map fun p => (eM p.1, enc p.2))) = _
    rw [keyEq_eM, look_moves enc x r, List.lookup_cons]
    by_cases h : y = x
    · subst h; simp
    · have h2 : (x == y) = false := by simp [Ne.symm h]
      rw [h2]
      simp [h]
theorem lookup_mem {α β : Type} [BEq α] [LawfulBEq α] {x : α} : ∀ {l : List (α × β)}, x ∈ l.map (·.1) → ∃ v, l.lookup x = some v ∧ (x, v) ∈ l
  | [], h => by simp at h
  | (y, b) :: r, h => by
    rw [List.lookup_cons]
    by_cases z : x = y
    · subst z
      exact ⟨b, by simp, by simp⟩
    · have h2 : (x == y) = false := by simp [z]
      rw [h2]
      obtain ⟨v, h3, h4⟩ := lookup_mem (l := r) (by simpa [z] using h)
      exact ⟨v, h3, List.mem_cons_of_mem _ h4⟩
theorem lookup_none {α β : Type} [BEq α] [LawfulBEq α] {x : α} : ∀ {l : List (α × β)}, x ∉ l.map (·.1) → l.lookup x = none
  | [], h => rfl
  | (y, b) :: r, h => by
    rw [List.lookup_cons]
    have z : x ≠ y := fun z => h (by simp [z])
    have h2 : (x == y) = false := by simp [z]
    rw [h2]
    exact lookup_none (l := r) fun z => h (by simp only [List.map_cons, List.mem_cons]; exact .inr z)
theorem lookup_isSome {α β : Type} [DecidableEq α] (x : α) (l : List (α × β)) : (l.lookup x).isSome = decide (x ∈ l.map (·.1)) := by
  by_cases h : x ∈ l.map (·.1)
  · obtain ⟨v, e, _⟩ := lookup_mem h
    rw [e]
    simp only [Option.isSome_some, h, decide_true]
  · rw [lookup_none h]
    simp only [Option.isSome_none, h, decide_false]
theorem Bd.look (b : Bd) {n : Str} (h : n ∈ b.names) : b.lines.lookup n = some (b.fl n) := by
  obtain ⟨v, e, _⟩ := lookup_mem (l := b.lines) h
  unfold Bd.fl
  rw [e]
  rfl
theorem Bd.fl_mem {b : Bd} (ok : OkB b) {p : Str × Fl} (h : p ∈ b.lines) : b.fl p.1 = p.2 := by
  have nd := ok.nd
  unfold Bd.names at nd
  have key : ∀ {l : List (Str × Fl)}, (l.map (·.1)).Nodup → p ∈ l → l.lookup p.1 = some p.2 := by
    intro l
    induction l with
    | nil => intro _ h; cases h
    | cons q r ih =>
      intro nd h
      rw [List.map_cons, List.nodup_cons] at nd
      rw [List.lookup_cons]
      rcases List.mem_cons.mp h with z | z
      · subst z; simp
      · have h2 : (p.1 == q.1) = false := by
          rw [beq_eq_false_iff_ne]
          intro y
          exact nd.1 (by rw [← y]; exact List.mem_map_of_mem z)
        rw [h2]
        exact ih nd.2 z
  unfold Bd.fl
  rw [key nd h]
  rfl
theorem OkB.aim_nm {b : Bd} (ok : OkB b) {n a : Str} (hn : n ∈ b.names) (ha : a ∈ (b.fl n).aims) : Nm a := ok.nm a (ok.closed n hn a ha)
@[simp] theorem isKey_eN (x : Str) : isKey false (eN x) = true := by unfold isKey; rfl
@[simp] theorem isKey_str (x : Str) : isKey false (.str x) = true := by unfold isKey; rfl
@[simp] theorem isKey_eM (x : Mv) : isKey true (eM x) = true := by unfold isKey; rfl
/-! ### ways -/
def ways (b : Bd) (n : Str) (s : List Mv) : List Str := (b.fl n).aims.filter fun o => !decide ((n, o) ∈ s)
theorem ways_sub {b : Bd} {n o : Str} {s : List Mv} (h : o ∈ ways b n s) : o ∈ (b.fl n).aims := (List.mem_filter.mp h).1
@[simp] theorem eB_lines (b : Bd) (s : Sto) : getF fd_lines (.d (eB b)) s = .ok (.d (eLn b.lines)) s := rfl
@[simp] theorem eB_begin (b : Bd) (s : Sto) : getF fd_begin (.d (eB b)) s = .ok (.d (eN b.start)) s := rfl
@[simp] theorem eB_fees (b : Bd) (s : Sto) : getF fd_fees (.d (eB b)) s = .ok (.d (eFe b.fees)) s := rfl
@[simp] theorem eF_side (f : Fl) (s : Sto) : getF fd_side (.d (eF f)) s = .ok (.d (.int f.side)) s := rfl
@[simp] theorem eF_aims (f : Fl) (s : Sto) : getF fd_aims (.d (eF f)) s = .ok (.d (.tup (f.aims.map eN))) s := rfl
@[simp] theorem eF_goal (f : Fl) (s : Sto) : getF fd_is_goal (.d (eF f)) s = .ok (.d (.bl f.goal)) s := rfl
@[simp] theorem ix_lines {b : Bd} {n : Str} (h : n ∈ b.names) (s : Sto) : ixD (eLn b.lines) (eN n) s = .ok (eF (b.fl n)) s := by
  show (if isKey false (eN n) = true then optM (Fb.look (eN n) (b.lines.map fun p => (eN p.1, eF p.2))) else stk : M D) s = _
  rw [if_pos (isKey_eN n), look_names, b.look h]
  rfl
theorem nodup_len {α : Type} [DecidableEq α] : ∀ {l m : List α}, l.Nodup → (∀ a ∈ l, a ∈ m) → l.length ≤ m.length
  | [], _, _, _ => Nat.zero_le _
  | a :: r, m, nd, h => by
    rw [List.nodup_cons] at nd
    have ha := h a (List.mem_cons_self ..)
    have := nodup_len (l := r) (m := m.erase a) nd.2 fun b hb => (List.mem_erase_of_ne (fun z => nd.1 (by rw [← z]; exact hb))).mpr (h b (List.mem_cons_of_mem _ hb))
    rw [List.length_erase_of_mem ha] at this
    have hp : 0 < m.length := List.length_pos_of_mem ha
    rw [List.length_cons]
    omega
theorem aims_len {b : Bd} (ok : OkB b) {n : Str} (h : n ∈ b.names) : (b.fl n).aims.length ≤ 8 := by
  have h1 := nodup_len (ok.aims n h) fun a ha => ok.closed n h a ha
  have h2 : b.names.length = b.lines.length := by unfold Bd.names; simp
  have := ok.len
  omega
theorem G_ways_ok {b : Bd} (ok : OkB b) {n : Str} (hn : n ∈ b.names) {s : List Mv} (hs : SOk s) {st : Sto} (hw : Wf st) :
    G_ways [.d (eB b), .d (eN n), .d (eS s)] [] st = .ok (.d (.lst ((ways b n s).map eN))) st := by
  have hl := aims_len ok hn
  simp only [G_ways, ev_def3, dS_ways, ev_sRet]
  rw [ev_dLc (enc := eN) (E := fun o => [some (.d (eB b)), some (.d (eN n)), some (.d (eS s)), some (.d (eN o))]) (p := fun o => !decide ((n, o) ∈ s)) (b.fl n).aims eN ?h1 hw (by omega) ?h2 ?h3 ?h4]
  case h1 => simp [hn]
  case h2 => intro a ha; simp
  case h3 =>
    intro a ha s' w
    have h1 := isData_eM (n := 6) (m := (n, a)) ⟨ok.nm n hn, ok.aim_nm hn ha⟩
    simp [eS, h1, all_moves hs, inL_moves]
  case h4 => intro a ha _ s' w; simp
  · simp [trunc_self hw]
    rfl
end Pg
/-! FpC -/
/-! FpC: distances. -/
namespace Pg
open PySem Fb
/-! ### values that are read where they stand -/
/-- v is read as d in st -/
def At (v : Val) (d : D) (st : Sto) : Prop := v = .d d ∨ ∃ k, v = .cell k ∧ ((∃ l, d = .lst l ∧ st[k]? = some (some (.lst l))) ∨ ∃ t l, d = .dic t l ∧ st[k]? = some (some (.dic t l)))
theorem At.d (d : D) (st : Sto) : At (.d d) d st := .inl rfl
theorem At.snap {v : Val} {d : D} {st : Sto} (h : At v d st) : snap v st = .ok d st := by
  rcases h with h | ⟨k, h, ⟨l, e, q⟩ | ⟨t, l, e, q⟩⟩
  · rw [h]; rfl
  · rw [h, e]; unfold Fb.snap; simp only [q]
  · rw [h, e]; unfold Fb.snap; simp only [q]
theorem At.app {v : Val} {d : D} {st : Sto} (h : At v d st) (r : Sto) : At v d (st ++ r) := by
  rcases h with h | ⟨k, h, ⟨l, e, q⟩ | ⟨t, l, e, q⟩⟩
  · exact .inl h
  · exact .inr ⟨k, h, .inl ⟨l, e, by rw [List.getElem?_append_left (List.getElem?_eq_some_iff.mp q).1]; exact q⟩⟩
  · exact .inr ⟨k, h, .inr ⟨t, l, e, by rw [List.getElem?_append_left (List.getElem?_eq_some_iff.mp q).1]; exact q⟩⟩
theorem At.dicT (st : Sto) (t : Bool) (l : List (D × D)) : At (.cell st.length) (.dic t l) (st ++ [some (.dic t l)]) := .inr ⟨st.length, rfl, .inr ⟨t, l, rfl, by simp⟩⟩
theorem At.lstT (st : Sto) (l : List D) : At (.cell st.length) (.lst l) (st ++ [some (.lst l)]) := .inr ⟨st.length, rfl, .inl ⟨l, rfl, by simp⟩⟩
/-- comprehensions: what is read stays read -/
theorem ev_dLcR {α : Type} {g : DG} {t : DT} {el : DE} {e : DEnv} {E : α → DEnv} {p : α → Bool} {enc : α → D} {s : Sto} {src : DI} {vs : List Nat} (l : List α) (fd : α → D) (hs : src e s = .ok (.its (l.map enc)) s) (hw : Wf s) (hn : l.length ≤ 1000000)
    (hg : ∀ a ∈ l, g (enc a) (wipeD e vs) = some (E a)) (ht : ∀ a ∈ l, ∀ c, Wf (s ++ [c]) → t (E a) (s ++ [c]) = .ok (p a) (s ++ [c])) (he : ∀ a ∈ l, p a = true → ∀ c, Wf (s ++ [c]) → el (E a) (s ++ [c]) = .ok (.d (fd a)) (s ++ [c])) :
    dLc src g t el vs false e s = .ok (.d (.lst ((l.filter p).map fd))) s := by
  have go : ∀ (l : List α) (acc : List D), acc.length + l.length ≤ 1000000 → (∀ a ∈ l, g (enc a) (wipeD e vs) = some (E a)) → (∀ a ∈ l, ∀ c, Wf (s ++ [c]) → t (E a) (s ++ [c]) = .ok (p a) (s ++ [c])) → (∀ a ∈ l, p a = true → ∀ c, Wf (s ++ [c]) → el (E a) (s ++ [c]) = .ok (.d (fd a)) (s ++ [c])) →
      lcL g t (addL el s.length) (wipeD e vs) (l.map enc) (s ++ [some (.lst acc)]) = .ok () (s ++ [some (.lst (acc ++ (l.filter p).map fd))]) := by
    intro l
    induction l with
    | nil => intro acc _ _ _ _; simp [lcL]
    | cons a r ih =>
      intro acc hn hg ht he
      rw [List.length_cons] at hn
      have w := hw.lst acc
      have h1 := hg a (List.mem_cons_self ..)
      have h2 := ht a (List.mem_cons_self ..) _ w
      have ih := fun acc h => ih acc h (fun a ha => hg a (List.mem_cons_of_mem _ ha)) (fun a ha => ht a (List.mem_cons_of_mem _ ha)) (fun a ha => he a (List.mem_cons_of_mem _ ha))
      rw [List.map_cons]
      show (match g (enc a) (wipeD e vs) with | none => stk | some e1 => bnd (noX (t e1)) fun b => if b then bnd (addL el s.length e1) fun _ => lcL g t (addL el s.length) (wipeD e vs) (r.map enc) else lcL g t (addL el s.length) (wipeD e vs) (r.map enc) : M Unit) _ = _
      rw [h1]
      show bnd (noX (t (E a))) _ _ = _
      rw [ev_bnd, noX_ok h2, bind_ok]
      cases z : p a with
      | false => rw [if_neg Bool.false_ne_true, ih acc (by omega), List.filter_cons_of_neg (by rw [z]; exact Bool.false_ne_true)]
      | true =>
        have h3 := he a (List.mem_cons_self ..) z _ w
        rw [if_pos rfl]
        show bnd (bnd (noX (el (E a))) fun v => bnd (plain v) fun x => pushC s.length x) _ _ = _
        rw [ev_bnd, ev_bnd, noX_ok h3, bind_ok, ev_bnd, ev_plain, bind_ok, pushC_at _ _ _ (by omega), bind_ok, ih _ (by rw [List.length_append]; simp; omega), List.filter_cons_of_pos z]
        simp
  unfold dLc
  rw [comp_its hs, go l [] (by simpa using hn) hg ht he, bind_ok, List.nil_append]
  exact dropL_at hw _
/-! ### won at once, leads on -/
def wonAt (b : Bd) (s : List Mv) (n : Str) : Bool := (b.fl n).goal || (decide ((b.fl n).side = 2) && (ways b n s).isEmpty)
def leadsOn (b : Bd) (s : List Mv) (ks : List Str) (n : Str) : Bool := if (b.fl n).side = 1 then (ways b n s).any fun o => decide (o ∈ ks) else (ways b n s).all fun o => decide (o ∈ ks)
def eDi (l : List (Str × Int)) : D := .dic false (l.map fun p => (eN p.1, .int p.2))
theorem eqL_nil {α : Type} (f : α → D) : ∀ l : List α, eqL (l.map f) [] = l.isEmpty
  | [] => rfl
  | _ :: _ => rfl
theorem ways_nm {b : Bd} (ok : OkB b) {n : Str} (hn : n ∈ b.names) (s : List Mv) : ∀ o ∈ ways b n s, Nm o := fun o ho => ok.aim_nm hn (ways_sub ho)
theorem ways_len {b : Bd} (ok : OkB b) {n : Str} (hn : n ∈ b.names) (s : List Mv) : (ways b n s).length ≤ 8 := Nat.le_trans (List.length_filter_le _ _) (aims_len ok hn)
theorem eqD_int (a b : Int) : eqD (.int a) (.int b) = decide (a = b) := by
  show (a == b) = _
  rw [Bool.eq_iff_iff]; simp
theorem okQ_int (a b : Int) : okQ (.int a) (.int b) = true := by unfold okQ; rfl
theorem filter_tt {α : Type} (l : List α) : l.filter (fun _ => true) = l := List.filter_eq_self.mpr fun _ _ => rfl
theorem okQ_names {l m : List Str} (h : ∀ x ∈ l, Nm x) (h2 : ∀ x ∈ m, Nm x) : okQ (.lst (l.map eN)) (.lst (m.map eN)) = true := by
  unfold okQ
  rw [isData_lst, isData_lst, all_names h, all_names h2]
  rfl
theorem okQ_names0 {l : List Str} (h : ∀ x ∈ l, Nm x) : okQ (.lst (l.map eN)) (.lst []) = true := okQ_names (m := []) h (by simp)
theorem eqD_lst0 {α : Type} (f : α → D) (l : List α) : eqD (.lst (l.map f)) (.lst []) = l.isEmpty := by
  show eqL _ _ = _
  rw [eqL_nil]
section
variable {b : Bd} (ok : OkB b) {n : Str} (hn : n ∈ b.names) {s : List Mv} (hs : SOk s) {st : Sto} (hw : Wf st)
include ok hn hs hw
theorem G_won_ok : G_is_won_at_once [.d (eB b), .d (eS s), .d (eN n)] [] st = .ok (.d (.bl (wonAt b s n))) st := by
  simp only [G_is_won_at_once, ev_def3, dS_is_won_at_once]
  simp [hn, G_ways_ok ok hn hs hw, okQ_int, okQ_names0 (ways_nm ok hn s), eqD_lst0, eqD_int]
  unfold wonAt
  cases (b.fl n).goal <;> by_cases h : (b.fl n).side = 2 <;> simp [h, trunc_self hw]
theorem G_leads_ok {ks : List (Str × Int)} {v : Val} (hv : At v (eDi ks) st) : G_leads_on [.d (eB b), .d (eS s), v, .d (eN n)] [] st = .ok (.d (.bl (leadsOn b s (ks.map (·.1)) n))) st := by
  simp only [G_leads_on, ev_def4, dS_leads_on]
  rw [ev_sSeq, ev_sSet, ev_dLcR (enc := eN) (E := fun o => [some (.d (eB b)), some (.d (eS s)), some v, some (.d (eN n)), none, some (.d (eN o))]) (p := fun _ => true) (ways b n s) (fun o => .bl (decide (o ∈ ks.map (·.1)))) ?h1 hw (by have := ways_len ok hn s; omega) ?h2 ?h3 ?h4]
  case h1 => simp [G_ways_ok ok hn hs hw]
  case h2 => intro a ha; simp
  case h3 => intro a ha c w; simp
  case h4 =>
    intro a ha _ c w
    have hs := (hv.app [c]).snap
    simp [hs]
    simp only [eDi, ev_inK, isKey_eN, look_names]
    simp only [bind_ok, ev_ret, Option.isSome_map, lookup_isSome]
  · simp [hn, okQ_int, eqD_int, filter_tt]
    unfold leadsOn
    by_cases h : (b.fl n).side = 1 <;> simp [h, trunc_self hw]
end
/-! ### dicts by typed keys -/
section
variable {κ β : Type} [DecidableEq κ] (ek : κ → D) (enc : β → D)
def dPut (l : List (κ × β)) (x : κ) (v : β) : List (κ × β) := if x ∈ l.map (·.1) then l.map fun p => if p.1 = x then (p.1, v) else p else l ++ [(x, v)]
theorem put_gen (hk : ∀ x y, keyEq (ek x) (ek y) = decide (x = y)) (l : List (κ × β)) (x : κ) (v : β) : put (ek x) (enc v) (l.map fun p => (ek p.1, enc p.2)) = (dPut l x v).map fun p => (ek p.1, enc p.2) := by
  unfold put dPut
  have h : ((l.map fun p => (ek p.1, enc p.2)).any fun p => keyEq p.1 (ek x)) = decide (x ∈ l.map (·.1)) := by
    rw [List.any_map, Bool.eq_iff_iff]
    simp only [Function.comp, List.any_eq_true, hk, decide_eq_true_eq, List.mem_map]
  rw [h]
  by_cases z : x ∈ l.map (·.1)
  · rw [if_pos (by simpa using z), if_pos z, List.map_map, List.map_map]
    refine List.map_congr_left fun p _ => ?_
    simp only [Function.comp, hk]
    by_cases y : p.1 = x <;> simp [y]
  · rw [if_neg (by simpa using z), if_neg z, List.map_append]
    rfl
def dPuts (l m : List (κ × β)) : List (κ × β) := m.foldl (fun l p => dPut l p.1 p.2) l
theorem putAll_gen (hk : ∀ x y, keyEq (ek x) (ek y) = decide (x = y)) : ∀ (m l : List (κ × β)), putAll (l.map fun p => (ek p.1, enc p.2)) (m.map fun p => (ek p.1, enc p.2)) = (dPuts l m).map fun p => (ek p.1, enc p.2)
  | [], l => rfl
  | (x, v) :: r, l => by
    rw [List.map_cons]
    show putAll (put (ek x) (enc v) _) _ = _
    rw [put_gen ek enc hk l x v, putAll_gen hk r]
    rfl
theorem dPut_new {l : List (κ × β)} {x : κ} (h : x ∉ l.map (·.1)) (v : β) : dPut l x v = l ++ [(x, v)] := if_neg h
theorem dPuts_new : ∀ {m l : List (κ × β)}, (m.map (·.1)).Nodup → (∀ p ∈ m, p.1 ∉ l.map (·.1)) → dPuts l m = l ++ m
  | [], l, _, _ => by simp [dPuts]
  | (x, v) :: r, l, nd, h => by
    rw [List.map_cons, List.nodup_cons] at nd
    show dPuts (dPut l x v) r = _
    rw [dPut_new (h _ (List.mem_cons_self ..)), dPuts_new nd.2 fun p hp => ?_]
    · simp
    · rw [List.map_append, List.mem_append]
      rintro (z | z)
      · exact h p (List.mem_cons_of_mem _ hp) z
      · simp only [List.map_cons, List.map_nil, List.mem_singleton] at z
        exact nd.1 (List.mem_map.mpr ⟨p, hp, z⟩)
theorem dPuts_nil {m : List (κ × β)} (nd : (m.map (·.1)).Nodup) : dPuts [] m = m := by rw [dPuts_new nd (by simp)]; simp
end
theorem putNm {β : Type} (enc : β → D) (l : List (Str × β)) (x : Str) (v : β) : put (eN x) (enc v) (l.map fun p => (eN p.1, enc p.2)) = (dPut l x v).map fun p => (eN p.1, enc p.2) := put_gen eN enc keyEq_eN l x v
theorem putAllN {β : Type} (enc : β → D) (l m : List (Str × β)) : putAll (l.map fun p => (eN p.1, enc p.2)) (m.map fun p => (eN p.1, enc p.2)) = (dPuts l m).map fun p => (eN p.1, enc p.2) := putAll_gen eN enc keyEq_eN m l
theorem putAllN0 {β : Type} (enc : β → D) (m : List (Str × β)) : putAll [] (m.map fun p => (eN p.1, enc p.2)) = (dPuts [] m).map fun p => (eN p.1, enc p.2) := putAllN enc [] m
theorem putMv {β : Type} (enc : β → D) (l : List (Mv × β)) (x : Mv) (v : β) : put (eM x) (enc v) (l.map fun p => (eM p.1, enc p.2)) = (dPut l x v).map fun p => (eM p.1, enc p.2) := put_gen eM enc keyEq_eM l x v
theorem putAllM {β : Type} (enc : β → D) (l m : List (Mv × β)) : putAll (l.map fun p => (eM p.1, enc p.2)) (m.map fun p => (eM p.1, enc p.2)) = (dPuts l m).map fun p => (eM p.1, enc p.2) := putAll_gen eM enc keyEq_eM m l
theorem putAllM0 {β : Type} (enc : β → D) (m : List (Mv × β)) : putAll [] (m.map fun p => (eM p.1, enc p.2)) = (dPuts [] m).map fun p => (eM p.1, enc p.2) := putAllM enc [] m
/-! ### the last cell -/
@[simp] theorem last_get (st : Sto) (c : Option Cel) : (st ++ [c])[st.length]? = some c := by simp
@[simp] theorem last_set (st : Sto) (c d : Option Cel) : (st ++ [c]).set st.length d = st ++ [d] := by
  rw [List.set_append_right _ _ (Nat.le_refl _), Nat.sub_self]
  rfl
theorem ev_isCD (k : Nat) (st : Sto) {t : Bool} {l : List (D × D)} (h : st[k]? = some (some (.dic t l))) : isCD (.cell k) st = .ok () st := by
  show bnd _ _ _ = _
  rw [ev_bnd]
  have : tagV (.cell k) st = .ok .dic st := by unfold tagV; simp only [h]
  rw [this]
  rfl
theorem ev_updI (k : Nat) (st : Sto) {l m : List (D × D)} (h : st[k]? = some (some (.dic false l))) (hl : l.length + m.length < 1000000) : updI (.cell k) [.d (.dic false m)] st = .ok (.d .non) (st.set k (some (.dic false (putAll l m)))) := by
  show celD k _ st = _
  unfold celD
  simp only [h]
  rw [ev_cap _ _ _ hl]
  rfl
@[simp] theorem ev_dUpd (e : DEnv) (s : Sto) (f : DE) (da : DA) : dUpd f da e s = (f e s).bind fun d => bnd (isCD d) fun _ => bnd (da e) fun us => updI d us := rfl
theorem ev_whileF {t : DT} {b : DS} {n : Nat} {e : DEnv} {s s1 : Sto} (h : t e s = .ok false s1) : whileD t b (n + 1) e s = .nx e s1 := by
  unfold whileD
  rw [ev_bndE, h]
  rfl
theorem ev_whileT {t : DT} {b : DS} {n : Nat} {e e' : DEnv} {s s1 s' : Sto} (h : t e s = .ok true s1) (h2 : b e s1 = .nx e' s') : whileD t b (n + 1) e s = whileD t b n e' s' := by
  show bndE (t e) e (fun c s => if c then (match b e s with
    | .nx e' s' => whileD t b n e' s'
    | .ct e' s' => whileD t b n e' s'
    | .bk e' s' => .nx e' s'
    | r => r) else .nx e s) s = _
  rw [ev_bndE, h, bindE_ok, if_pos rfl, h2]
/-! ### distances -/
def keys (l : List (Str × Int)) : List Str := l.map (·.1)
def nextL (b : Bd) (s : List Mv) (f : List (Str × Int)) : List Str := b.names.filter fun n => !decide (n ∈ keys f) && leadsOn b s (keys f) n
def distL (b : Bd) (s : List Mv) : Nat → List (Str × Int) → Int → List Str → List (Str × Int)
  | 0, f, _, _ => f
  | m + 1, f, i, L => if L.isEmpty then f else distL b s m (f ++ L.map fun n => (n, i)) (i + 1) (nextL b s (f ++ L.map fun n => (n, i)))
def distancesOf (b : Bd) (s : List Mv) : List (Str × Int) := distL b s 1000 [] 0 (b.names.filter fun n => wonAt b s n)
theorem names_len (b : Bd) : b.names.length = b.lines.length := by unfold Bd.names; simp
section
variable {b : Bd} (ok : OkB b) {s : List Mv} (hs : SOk s) {st : Sto} (hw : Wf st)
theorem names_map (b : Bd) : b.lines.map (eN ∘ fun x => x.1) = b.names.map eN := by unfold Bd.names; rw [List.map_map]
theorem lines_src : (D.dic false (b.lines.map fun p => (eN p.1, eF p.2))) = eLn b.lines := rfl
@[simp] theorem src_eLn (l : List (Str × Fl)) (s : Sto) : srcOf (.d (eLn l)) s = .ok (.its ((l.map (·.1)).map eN)) s := by
  show Rs.ok (Src.its ((l.map fun p => (eN p.1, eF p.2)).map (·.1))) s = _
  rw [List.map_map, List.map_map]
  rfl
include ok hs hw
theorem while_dist : ∀ (m : Nat) (f : List (Str × Int)) (i : Int) (L : List Str) (x5 : Option Val), (keys f).Nodup → (∀ n ∈ keys f, n ∈ b.names) → L.Nodup → (∀ n ∈ L, n ∈ b.names ∧ n ∉ keys f) → b.lines.length + 1 ≤ f.length + m →
    ∃ i' x', whileD T_distances_of_0 L_distances_of_1 m [some (.d (eB b)), some (.d (eS s)), some (.cell st.length), some (.d (.int i)), some (.d (.lst (L.map eN))), x5] (st ++ [some (.dic false (f.map fun p => (eN p.1, .int p.2)))]) =
      .nx [some (.d (eB b)), some (.d (eS s)), some (.cell st.length), i', some (.d (.lst [])), x'] (st ++ [some (.dic false ((distL b s m f i L).map fun p => (eN p.1, .int p.2)))]) := by
  intro m
  induction m with
  | zero =>
    intro f i L x5 nd sub _ _ hm
    have := nodup_len nd sub
    rw [names_len] at this
    unfold keys at this
    rw [List.length_map] at this
    omega
  | succ m ih =>
    intro f i L x5 nd sub ndL subL hm
    have wd := hw.dic false (f.map fun p => (eN p.1, D.int p.2))
    have hL : ∀ x ∈ L, Nm x := fun x hx => ok.nm x (subL x hx).1
    have ht : T_distances_of_0 [some (.d (eB b)), some (.d (eS s)), some (.cell st.length), some (.d (.int i)), some (.d (.lst (L.map eN))), x5] (st ++ [some (.dic false (f.map fun p => (eN p.1, .int p.2)))]) = .ok (!L.isEmpty) (st ++ [some (.dic false (f.map fun p => (eN p.1, .int p.2)))]) := by
      simp [T_distances_of_0, okQ_names0 hL, eqD_lst0]
    unfold distL
    cases z : L.isEmpty with
    | true =>
      rw [z] at ht
      rw [ev_whileF ht, List.isEmpty_iff.mp z]
      exact ⟨_, _, rfl⟩
    | false =>
      rw [z] at ht
      have nd' : (keys (f ++ L.map fun n => (n, i))).Nodup := by
        unfold keys
        rw [List.map_append, List.map_map]
        have e : (Prod.fst ∘ fun n : Str => (n, i)) = id := rfl
        rw [e, List.map_id, List.nodup_append]
        exact ⟨nd, ndL, fun a ha c hc z => (subL c hc).2 (by rw [← z]; exact ha)⟩
      have sub' : ∀ n ∈ keys (f ++ L.map fun n => (n, i)), n ∈ b.names := fun n hn => by
        unfold keys at hn
        rw [List.map_append, List.mem_append, List.map_map] at hn
        rcases hn with h | h
        · exact sub n h
        · have e : (Prod.fst ∘ fun n : Str => (n, i)) = id := rfl
          rw [e, List.map_id] at h
          exact (subL n h).1
      have fl : f.length ≤ 8 := by
        have := nodup_len nd sub
        rw [names_len] at this
        unfold keys at this
        rw [List.length_map] at this
        have := ok.len
        omega
      have Ll : L.length ≤ 8 := by
        have := nodup_len ndL fun x hx => (subL x hx).1
        rw [names_len] at this
        have := ok.len
        omega
      have hb : ∃ x', L_distances_of_1 [some (.d (eB b)), some (.d (eS s)), some (.cell st.length), some (.d (.int i)), some (.d (.lst (L.map eN))), x5] (st ++ [some (.dic false (f.map fun p => (eN p.1, .int p.2)))]) =
          .nx [some (.d (eB b)), some (.d (eS s)), some (.cell st.length), some (.d (.int (i + 1))), some (.d (.lst ((nextL b s (f ++ L.map fun n => (n, i))).map eN))), x'] (st ++ [some (.dic false ((f ++ L.map fun n => (n, i)).map fun p => (eN p.1, .int p.2)))]) := by
        refine ⟨x5, ?_⟩
        have wd2 := hw.dic false ((f ++ L.map fun n => (n, i)).map fun p => (eN p.1, D.int p.2))
        have e1 : dDc false (iSeq (dVar 4)) (tgN 5) tYs (dVar 5) (dVar 3) [5] [some (.d (eB b)), some (.d (eS s)), some (.cell st.length), some (.d (.int i)), some (.d (.lst (L.map eN))), x5] (st ++ [some (.dic false (f.map fun p => (eN p.1, .int p.2)))]) =
            .ok (.d (.dic false ((L.map fun n => (n, i)).map fun p => (eN p.1, .int p.2)))) (st ++ [some (.dic false (f.map fun p => (eN p.1, .int p.2)))]) := by
          rw [ev_dDc (enc := eN) (p := fun _ => true) (E := fun n => [some (.d (eB b)), some (.d (eS s)), some (.cell st.length), some (.d (.int i)), some (.d (.lst (L.map eN))), some (.d (eN n))]) false L eN (fun _ => .int i) ?h1 wd (by omega) ?h2 ?h3 ?h4 ?h5 ?h6]
          · rw [filter_tt]
            have := putAllN0 (fun j : Int => D.int j) (L.map fun n => (n, i))
            rw [List.map_map] at this
            have e2 : L.map ((fun p : Str × Int => (eN p.1, D.int p.2)) ∘ fun n => (n, i)) = L.map fun n => (eN n, D.int i) := rfl
            rw [e2] at this
            rw [this, dPuts_nil]
            rw [List.map_map]
            have e : (Prod.fst ∘ fun n : Str => (n, i)) = id := rfl
            rw [e, List.map_id]
            exact ndL
          case h1 => simp
          case h2 => intro a ha; simp
          case h3 => intro a ha s' w; simp
          case h4 => intro a ha _ s' w; simp
          case h5 => intro a ha _ s' w; simp
          case h6 => intro a ha; simp
        unfold L_distances_of_1
        rw [ev_sSeq, ev_sExpr, ev_dUpd]
        simp only [ev_var, List.getElem?_cons_succ, List.getElem?_cons_zero, optV_some, bind_ok, ev_bnd]
        rw [ev_isCD _ _ (last_get _ _)]
        simp only [bind_ok, ev_bnd, ev_cons, e1, ev_nil, ev_ret]
        rw [ev_updI _ _ (last_get _ _) (by simp; omega)]
        simp only [last_set, bindE_ok, seq_nx]
        rw [putAllN (fun j : Int => D.int j) f (L.map fun n => (n, i)), dPuts_new ?n1 ?n2]
        case n1 =>
          rw [List.map_map]
          have e : (Prod.fst ∘ fun n : Str => (n, i)) = id := rfl
          rw [e, List.map_id]
          exact ndL
        case n2 =>
          intro p hp
          obtain ⟨n, hn, e⟩ := List.mem_map.mp hp
          subst e
          exact (subL n hn).2
        have hv := At.dicT st false ((f ++ L.map fun n => (n, i)).map fun p => (eN p.1, D.int p.2))
        rw [ev_sSeq, ev_sInc]
        simp only [ev_var, List.getElem?_cons_succ, List.getElem?_cons_zero, optV_some, bind_ok, ev_bnd, ev_plain, bindE_ok, ev_incX, seq_nx, ev_sSet, List.set_cons_succ, List.set_cons_zero]
        rw [ev_dLcR (enc := eN) (E := fun n => [some (.d (eB b)), some (.d (eS s)), some (.cell st.length), some (.d (.int (i + 1))), some (.d (.lst (L.map eN))), some (.d (eN n))]) (p := fun n => !decide (n ∈ keys (f ++ L.map fun n => (n, i))) && leadsOn b s (keys (f ++ L.map fun n => (n, i))) n) b.names eN ?h1 wd2 ?h0 ?h2 ?h3 ?h4]
        case h1 =>
          simp [names_map]
        case h0 =>
          have := ok.len
          rw [names_len]
          omega
        case h2 => intro a ha; simp
        case h3 =>
          intro a ha c w
          have hv2 := hv.app [c]
          have hsn := hv2.snap
          simp only [ev_and, ev_cmp, ev_var, List.getElem?_cons_succ, List.getElem?_cons_zero, optV_some, bind_ok, ev_bnd, ev_opB, hsn, ev_snap, ev_nin, ev_inn]
          rw [ev_inK _ _ _ _ (isKey_eN a), look_names, Option.isSome_map, lookup_isSome]
          simp only [bind_ok, ev_ret]
          by_cases z : a ∈ (f ++ L.map fun n => (n, i)).map (·.1)
          · simp only [keys, z, decide_true, Bool.not_true, Bool.false_eq_true, if_false, Bool.false_and, ev_ret]
          · have hl := G_leads_ok ok ha hs w (ks := f ++ L.map fun n => (n, i)) hv2
            simp only [z, decide_false, Bool.not_false, if_true, ev_vT, ev_call, ev_cons, ev_nil, ev_var, List.getElem?_cons_succ, List.getElem?_cons_zero, optV_some, bind_ok, ev_bnd, ev_ret, hl, ev_asB, keys, Bool.true_and]
        case h4 => intro a ha _ c w; simp
        · simp [nextL]
      obtain ⟨x', hb⟩ := hb
      obtain ⟨i', x'', h3⟩ := ih (f ++ L.map fun n => (n, i)) (i + 1) (nextL b s (f ++ L.map fun n => (n, i))) x' nd' sub' (ok.nd.filter _) (fun n hn => by
        obtain ⟨h1, h2⟩ := List.mem_filter.mp hn
        refine ⟨h1, ?_⟩
        rw [Bool.and_eq_true] at h2
        simpa using h2.1) (by
        have hne : L ≠ [] := fun e => by rw [e] at z; cases z
        have := List.length_pos_iff.mpr hne
        rw [List.length_append, List.length_map]
        omega)
      refine ⟨i', x'', ?_⟩
      rw [ev_whileT ht hb, if_neg Bool.false_ne_true]
      exact h3
theorem G_dist_ok : G_distances_of [.d (eB b), .d (eS s)] [] st = .ok (.d (eDi (distancesOf b s))) st := by
  simp only [G_distances_of, ev_def2, dS_distances_of]
  have wd := hw.dic false []
  simp only [ev_sSeq, ev_sPar, ev_cons, ev_dic0, bind_ok, ev_bnd, ev_con, ev_nil, ev_ret, bindE_ok, List.length_cons, List.length_nil, if_true, List.zip_cons_cons, List.zip_nil_left, ev_setAll_cons, ev_setAll_nil, List.reduceReplicate, List.set_cons_succ, List.set_cons_zero, seq_nx, ev_sSet]
  rw [ev_dLc (enc := eN) (E := fun n => [some (.d (eB b)), some (.d (eS s)), some (.cell st.length), some (.d (.int 0)), none, some (.d (eN n))]) (p := fun n => wonAt b s n) b.names eN ?h1 wd ?h0 ?h2 ?h3 ?h4]
  case h1 =>
    simp [names_map]
  case h0 =>
    have := ok.len
    rw [names_len]
    omega
  case h2 => intro a ha; simp
  case h3 =>
    intro a ha s' w
    simp [G_won_ok ok ha hs w]
  case h4 => intro a ha _ s' w; simp
  · obtain ⟨i', x', h⟩ := while_dist ok hs hw 1000 [] 0 (b.names.filter fun n => wonAt b s n) none (by simp [keys]) (by simp [keys]) (ok.nd.filter _) (fun n hn => ⟨(List.mem_filter.mp hn).1, by simp [keys]⟩) (by have := ok.len; simp; omega)
    simp only [bindE_ok, List.set_cons_succ, List.set_cons_zero, seq_nx]
    rw [List.map_nil] at h
    simp only [Nat.reduceSub, List.reduceReplicate, List.set_cons_succ, List.set_cons_zero, ev_sSeq]
    rw [h]
    simp only [seq_nx, ev_sSeq, ev_sFrz, List.getElem?_cons_succ, List.getElem?_cons_zero, ev_frzC]
    rw [frzV_dic _ _ _ _ _ _ (last_get _ _)]
    simp [trunc_app hw]
    rfl
theorem G_wins_ok : G_wins [.d (eB b), .d (eS s)] [] st = .ok (.d (.bl (decide (b.start ∈ keys (distancesOf b s))))) st := by
  simp only [G_wins, ev_def2, dS_wins]
  simp [G_dist_ok ok hs hw]
  unfold eDi
  rw [ev_inK _ _ _ _ (isKey_eN _), look_names, Option.isSome_map, lookup_isSome]
  simp [trunc_self hw, keys]
  exact decide_eq_decide.mpr Iff.rfl
end
end Pg
/-! FpE -/
/-! FpE: names, moves, sets, prices; fields and boards made. -/
namespace Pg
open PySem Fb
/-! ### names -/
theorem ev_inS (s : Sto) (c : Nat) : inD (.str ⟨#[c]⟩) (.str "abcdefghijklmnopqrstuvwxyz") s = .ok (isLet c) s := by
  show (if (#[c] : Array Nat).size = 1 then ret (isLet ((#[c] : Array Nat).getD 0 0)) else stk : M Bool) s = _
  rw [if_pos (show (#[c] : Array Nat).size = 1 from rfl)]
  rfl
section
variable {st : Sto} (hw : Wf st)
include hw
theorem G_name_ok {x : Str} (h : okS x = true) : G_is_name [.d (eN x)] [] st = .ok (.d (.bl (isNm x))) st := by
  have hl : x.length ≤ 1000000 := by
    unfold okS at h
    exact of_decide_eq_true h
  simp only [G_is_name, ev_def1, dS_is_name, eN]
  simp [h]
  by_cases h1 : (1 : Int) ≤ x.length
  · simp only [h1, decide_true, if_true]
    by_cases h2 : (x.length : Int) ≤ 8
    · simp only [h2, decide_true, if_true]
      simp
      rw [ev_dLc (α := Nat) (enc := fun c => .str ⟨#[c]⟩) (E := fun c => [some (.d (.str x)), some (.d (.str ⟨#[c]⟩))]) (p := fun _ => true) x.cps.toList (fun c => .bl (isLet c)) ?h1 hw ?h0 ?h2 ?h3 ?h4]
      case h1 =>
        simp
        rfl
      case h0 =>
        show x.cps.toList.length ≤ _
        have : x.cps.toList.length = x.length := by simp; rfl
        omega
      case h2 => intro a ha; simp
      case h3 => intro a ha s' w; simp
      case h4 =>
        intro a ha _ s' w
        simp [ev_inS]
      rw [filter_tt]
      simp [trunc_self hw, isNm, h1, h2]
    · have e : ¬ ((x.length : Int) ≤ 8) := h2
      simp only [e, decide_false]
      simp [trunc_self hw, isNm, h1, e]
  · simp only [h1, decide_false]
    simp [trunc_self hw, isNm, h1]
theorem G_int_ok (i lo hi : Int) : G_is_integer [.d (.int i), .d (.int lo), .d (.int hi)] [] st = .ok (.d (.bl (decide (lo ≤ i) && decide (i ≤ hi)))) st := by
  simp only [G_is_integer, ev_def3, dS_is_integer]
  simp
  by_cases h1 : lo ≤ i
  · simp [h1, trunc_self hw]
  · simp [h1, trunc_self hw]
/-! ### moves, sets -/
def isMv (l : List (Str × Fl)) (m : Mv) : Bool := match l.lookup m.1 with
  | some f => decide (m.2 ∈ f.aims)
  | none => false
theorem G_move_ok {l : List (Str × Fl)} (hl : ∀ p ∈ l, ∀ a ∈ p.2.aims, Nm a) {m : Mv} (hm : MOk m) : G_is_move [.d (eLn l), .d (eM m)] [] st = .ok (.d (.bl (isMv l m))) st := by
  have hq : okQ (.int 2) (.int 2) = true := okQ_int _ _
  simp only [G_is_move, ev_def2, dS_is_move]
  have e1 : dLc (iSeq (dVar 1)) (tgN 2) tYs (dIsi q_str (dVar 2)) [2] false [some (.d (eLn l)), some (.d (eM m)), none] st = .ok (.d (.lst (([m.1, m.2].filter fun _ => true).map fun _ => .bl true))) st := by
    rw [ev_dLc (enc := eN) (E := fun o => [some (.d (eLn l)), some (.d (eM m)), some (.d (eN o))]) (p := fun _ => true) [m.1, m.2] (fun _ => .bl true) ?h1 hw (by simp) ?h2 ?h3 ?h4]
    case h1 => simp [eM, eN]
    case h2 => intro a ha; simp
    case h3 => intro a ha s' w; simp
    case h4 => intro a ha _ s' w; simp [eN]
  rw [filter_tt] at e1
  have e2 : bAll [.d (.lst [D.bl true, D.bl true])] st = .ok (.d (.bl true)) st := rfl
  have e3 : tagD (eM m) = .tup := rfl
  have e4 : lenD (eM m) st = .ok (.d (.int 2)) st := rfl
  have e5 : ∀ i : Int, ixD (eM m) (.int i) st = optM (atD [eN m.1, eN m.2] i) st := fun _ => rfl
  have e6 : atD [eN m.1, eN m.2] 0 = some (eN m.1) := rfl
  have e7 : atD [eN m.1, eN m.2] 1 = some (eN m.2) := rfl
  have e8 : inD (eN m.1) (eLn l) st = .ok (l.lookup m.1).isSome st := by
    unfold eLn
    rw [ev_inK _ _ _ _ (isKey_eN _), look_names, Option.isSome_map]
  simp [e1, e2, e3, e4, e5, e6, e7, e8, hq, eqD_int]
  unfold isMv
  cases q : l.lookup m.1 with
  | none => simp [trunc_self hw]
  | some f =>
    have hf : (m.1, f) ∈ l := by
      have : m.1 ∈ l.map (·.1) := by
        by_cases z : m.1 ∈ l.map (·.1)
        · exact z
        · rw [lookup_none z] at q; cases q
      obtain ⟨v, h1, h2⟩ := lookup_mem this
      rw [q] at h1
      cases h1
      exact h2
    have e9 : ixD (eLn l) (eN m.1) st = .ok (eF f) st := by
      unfold eLn
      rw [ev_ixK _ _ _ _ (isKey_eN _), look_names, q]
      rfl
    simp [e9, isData_eN (n := 7) hm.2, all_names (n := 6) (hl _ hf), inL_names, trunc_self hw]
end
theorem isMv_iff {b : Bd} {m : Mv} : isMv b.lines m = true ↔ m.1 ∈ b.names ∧ m.2 ∈ (b.fl m.1).aims := by
  unfold isMv
  by_cases h : m.1 ∈ b.names
  · rw [b.look h]
    simp [h]
  · rw [lookup_none (l := b.lines) h]
    simp [h]
section
variable {b : Bd} (ok : OkB b) {s : List Mv} {st : Sto} (hw : Wf st)
include ok
theorem OkB.aims_nm : ∀ p ∈ b.lines, ∀ a ∈ p.2.aims, Nm a := fun p hp a ha => by
  have hn : p.1 ∈ b.names := List.mem_map_of_mem hp
  rw [← Bd.fl_mem ok hp] at ha
  exact ok.aim_nm hn ha
theorem OkB.mv_ok {m : Mv} (h : m ∈ b.moves) : MOk m := ⟨ok.nm _ (ok.mv m h).1, ok.aim_nm (ok.mv m h).1 (ok.mv m h).2⟩
def isSt (b : Bd) (s : List Mv) : Bool := s.all (isMv b.lines) && decide (s = b.moves.filter fun m => decide (m ∈ s))
theorem isSt_ok (h : isSt b s = true) : SOk s := by
  unfold isSt at h
  rw [Bool.and_eq_true, List.all_eq_true] at h
  intro m hm
  have := isMv_iff.mp (h.1 m hm)
  exact ⟨ok.nm _ this.1, ok.aim_nm this.1 this.2⟩
omit ok
@[simp] theorem src_eS (s : List Mv) (st : Sto) : srcOf (.d (eS s)) st = .ok (.its (s.map eM)) st := rfl
@[simp] theorem src_eFe (l : List (Mv × Int)) (st : Sto) : srcOf (.d (eFe l)) st = .ok (.its ((l.map (·.1)).map eM)) st := by
  show Rs.ok (Src.its ((l.map fun p => (eM p.1, D.int p.2)).map (·.1))) st = _
  rw [List.map_map, List.map_map]
  rfl
theorem eqL_moves : ∀ l m : List Mv, eqL (l.map eM) (m.map eM) = decide (l = m)
  | [], [] => by simp [eqL]
  | [], _ :: _ => by simp [eqL]
  | _ :: _, [] => by simp [eqL]
  | x :: l, y :: m => by
    rw [List.map_cons, List.map_cons]
    show (eqD (eM x) (eM y) && eqL (l.map eM) (m.map eM)) = _
    rw [eqD_eM, eqL_moves l m, ← Bool.decide_and]
    exact decide_eq_decide.mpr (by rw [List.cons.injEq])
theorem eqL_names : ∀ l m : List Str, eqL (l.map eN) (m.map eN) = decide (l = m)
  | [], [] => by simp [eqL]
  | [], _ :: _ => by simp [eqL]
  | _ :: _, [] => by simp [eqL]
  | x :: l, y :: m => by
    rw [List.map_cons, List.map_cons]
    show (eqD (eN x) (eN y) && eqL (l.map eN) (m.map eN)) = _
    rw [eqD_eN, eqL_names l m, ← Bool.decide_and]
    exact decide_eq_decide.mpr (by rw [List.cons.injEq])
include ok hw
theorem G_set_ok (hs : SOk s) (hn : s.length ≤ 1000) : G_is_set [.d (eB b), .d (eS s)] [] st = .ok (.d (.bl (isSt b s))) st := by
  simp only [G_is_set, ev_def2, dS_is_set]
  have e1 : dLc (iSeq (dVar 1)) (tgN 2) tYs (dCallG G_is_move (dCons (dFld fd_lines (dVar 0)) (dCons (dVar 2) dNil))) [2] false [some (.d (eB b)), some (.d (eS s)), none] st = .ok (.d (.lst ((s.filter fun _ => true).map fun m => .bl (isMv b.lines m)))) st := by
    rw [ev_dLc (enc := eM) (E := fun o => [some (.d (eB b)), some (.d (eS s)), some (.d (eM o))]) (p := fun _ => true) s (fun m => .bl (isMv b.lines m)) ?h1 hw (by omega) ?h2 ?h3 ?h4]
    case h1 => simp
    case h2 => intro a ha; simp
    case h3 => intro a ha s' w; simp
    case h4 => intro a ha _ s' w; simp [G_move_ok w ok.aims_nm (hs a ha)]
  have e2 : dLc (iSeq (dFld fd_fees (dVar 0))) (tgN 2) (tCmp .inn (dVar 2) (dVar 1)) (dVar 2) [2] false [some (.d (eB b)), some (.d (eS s)), none] st = .ok (.d (.lst ((b.moves.filter fun m => decide (m ∈ s)).map eM))) st := by
    rw [ev_dLc (enc := eM) (E := fun o => [some (.d (eB b)), some (.d (eS s)), some (.d (eM o))]) (p := fun m => decide (m ∈ s)) b.moves eM ?h1 hw ?h0 ?h2 ?h3 ?h4]
    case h1 => simp [Bd.moves]
    case h0 =>
      have := ok.mlen
      unfold Bd.moves
      rw [List.length_map]
      omega
    case h2 => intro a ha; simp
    case h3 => intro a ha s' w; simp [eS, isData_eM (n := 6) (ok.mv_ok ha), all_moves (n := 5) hs, inL_moves]
    case h4 => intro a ha _ s' w; simp
  rw [filter_tt] at e1
  have e3 : tagD (eS s) = .tup := rfl
  have e5 : okQ (.lst (s.map eM)) (.lst ((b.moves.filter fun m => decide (m ∈ s)).map eM)) = true := by
    unfold okQ
    rw [isData_lst, isData_lst, all_moves hs, all_moves fun m hm => ok.mv_ok (List.mem_filter.mp hm).1]
    rfl
  have e6 : eqD (.lst (s.map eM)) (.lst ((b.moves.filter fun m => decide (m ∈ s)).map eM)) = decide (s = b.moves.filter fun m => decide (m ∈ s)) := eqL_moves _ _
  have e7 : ∀ x, listD false (eS s) x = .ok (.d (.lst (s.map eM))) x := fun _ => rfl
  simp [e1, e3]
  unfold isSt
  cases q : s.all (isMv b.lines) with
  | false => simp [q, trunc_self hw]
  | true => simp [q, e2, e5, e6, e7, trunc_self hw]
theorem G_cb_ok : G_check_board [.d (eB b)] [] st = .ok (.d .non) st := by
  have e : tagD (eB b) = .ins 1 := rfl
  simp only [G_check_board, ev_def1, dS_check_board]
  simp [e, trunc_self hw]
theorem G_cs_ok (hs : isSt b s = true) (hn : s.length ≤ 1000) : G_check_set [.d (eB b), .d (eS s)] [] st = .ok (.d .non) st := by
  simp only [G_check_set, ev_def2, dS_check_set]
  simp [G_cb_ok ok hw, G_set_ok ok hw (isSt_ok ok hs) hn, hs, trunc_self hw]
end
end Pg
/-! FpF -/
/-! FpF: fields and boards made. -/
namespace Pg
open PySem Fb
theorem Wf.ins {st : Sto} (h : Wf st) (c : Nat) (fs : List (Nat × Val)) (hf : fs.all (fun p => match p.2 with | .cell k => decide (k < st.length) | _ => true) = true) : Wf (st ++ [some (.ins c fs)]) := by
  unfold Wf at h ⊢
  rw [List.all_append, Bool.and_eq_true, List.all_eq_true]
  refine ⟨fun c hc => celOk_mono (by simp) (List.all_eq_true.mp h c hc), ?_⟩
  rw [List.all_cons, Bool.and_eq_true]
  refine ⟨celOk_mono (m := st.length) (by simp) hf, rfl⟩
@[simp] theorem ev_sAttr (e : DEnv) (s : Sto) (fld : Nat → Option Nat) (fo fv : DE) : sAttr fld fo fv e s = (bnd (fv e) (fun v => bnd (fo e) fun o => attrI fld o v) s).bindE e fun _ s => .nx e s := rfl
theorem ev_attrI {k : Nat} {st : Sto} {fld : Nat → Option Nat} {c i : Nat} {fs : List (Nat × Val)} (v : Val) (h : st[k]? = some (some (.ins c fs))) (hf : fld c = some i) (hl : fs.length < 1000) :
    attrI fld (.cell k) v st = .ok (.d .non) (st.set k (some (.ins c (putN i v fs)))) := by
  unfold attrI
  simp only [h, hf]
  rw [if_pos hl]
theorem ev_make {c n : Nat} {G : Gn} {vs ks : List Val} {st : Sto} {fs : List (Nat × Val)} {l : List D} (h : G (.cell st.length :: vs) ks (st ++ [some (.ins c [])]) = .ok (.d .non) (st ++ [some (.ins c fs)])) (hi : insOf 0 fs = some l) (hl : l.length = n) (hw : Wf st) :
    dMake false n c G vs ks st = .ok (.d (.ins c l)) st := by
  unfold dMake
  rw [h]
  simp only [last_get, hi, Bool.false_eq_true, if_false]
  rw [take_len, if_pos ⟨trivial, hl, hw⟩]
@[simp] theorem ev_makeE (k : Bool) (n c : Nat) (G : Gn) (a : DA) (e : DEnv) (s : Sto) : dMakeE k n c G a e s = (a e s).bind fun vs => dMake k n c G vs [] := rfl
@[simp] theorem ev_makeK (k : Bool) (n c : Nat) (G : Gn) (a b : DA) (e : DEnv) (s : Sto) : dMakeK k n c G a b e s = (a e s).bind fun vs => bnd (b e) fun ks => dMake k n c G vs ks := rfl
theorem trunc_same {n : Nat} {st' : Sto} (h : Wf st') (hl : st'.length = n) : trunc n st' = st' := by rw [← hl]; exact trunc_self h
theorem dPuts_len {κ β : Type} [DecidableEq κ] {l : List κ} (nd : l.Nodup) (f : κ → β) : dPuts [] (l.map fun x => (x, f x)) = l.map fun x => (x, f x) := by
  refine dPuts_nil ?_
  rw [List.map_map]
  have e : (Prod.fst ∘ fun x : κ => (x, f x)) = id := rfl
  rw [e, List.map_id]
  exact nd
structure OkF (f : Fl) : Prop where
  side : f.side = 1 ∨ f.side = 2
  nm : ∀ a ∈ f.aims, isNm a = true
  nd : f.aims.Nodup
  len : f.aims.length ≤ 1000
section
variable {st : Sto} (hw : Wf st)
include hw
theorem init_field {f : Fl} (ok : OkF f) {ks : List Val} (hk : starK false ks = some (.d (.bl f.goal))) : G_Fieldu__initu_ (.cell st.length :: .d (.int f.side) :: f.aims.map fun a => .d (eN a)) ks (st ++ [some (.ins 0 [])]) =
    .ok (.d .non) (st ++ [some (.ins 0 [(0, .d (.int f.side)), (1, .d (.tup (f.aims.map eN))), (2, .d (.bl f.goal))])]) := by
  have w0 := Wf.ins hw 0 [] rfl
  have w3 := Wf.ins hw 0 [(0, .d (.int f.side)), (1, .d (.tup (f.aims.map eN))), (2, .d (.bl f.goal))] rfl
  have hl := ok.len
  show bnd (plains (f.aims.map fun a => .d (eN a))) _ _ = _
  have e0 : (f.aims.map fun a => Val.d (eN a)) = (f.aims.map eN).map .d := by rw [List.map_map]; rfl
  rw [ev_bnd, e0, ev_plains, bind_ok, ev_bnd, hk, ev_optM, bind_ok, ev_cap _ _ _ (by rw [List.length_map]; omega), ev_fnD _ _ 4 5 [_, _, _, _] rfl]
  have e1 : dLc (iSeq (dVar 3)) (tgN 4) tYs (dCallG G_is_name (dCons (dVar 4) dNil)) [4] false [some (.cell st.length), some (.d (.int f.side)), some (.d (.bl f.goal)), some (.d (.tup (f.aims.map eN))), none] (st ++ [some (.ins 0 [])]) =
      .ok (.d (.lst ((f.aims.filter fun _ => true).map fun a => .bl (isNm a)))) (st ++ [some (.ins 0 [])]) := by
    rw [ev_dLc (enc := eN) (E := fun o => [some (.cell st.length), some (.d (.int f.side)), some (.d (.bl f.goal)), some (.d (.tup (f.aims.map eN))), some (.d (eN o))]) (p := fun _ => true) f.aims (fun a => .bl (isNm a)) ?h1 w0 (by omega) ?h2 ?h3 ?h4]
    case h1 => simp
    case h2 => intro a ha; simp
    case h3 => intro a ha s' w; simp
    case h4 => intro a ha _ s' w; simp [G_name_ok w (isNm_len (ok.nm a ha))]
  have e2 : dDc false (iSeq (dVar 3)) (tgN 4) tYs (dVar 4) (dCon (.bl true)) [4] [some (.cell st.length), some (.d (.int f.side)), some (.d (.bl f.goal)), some (.d (.tup (f.aims.map eN))), none] (st ++ [some (.ins 0 [])]) =
      .ok (.d (.dic false ((f.aims.map fun a => (a, true)).map fun p => (eN p.1, .bl p.2)))) (st ++ [some (.ins 0 [])]) := by
    rw [ev_dDc (enc := eN) (E := fun o => [some (.cell st.length), some (.d (.int f.side)), some (.d (.bl f.goal)), some (.d (.tup (f.aims.map eN))), some (.d (eN o))]) (p := fun _ => true) false f.aims eN (fun _ => .bl true) ?h1 w0 (by omega) ?h2 ?h3 ?h4 ?h5 ?h6]
    case h1 => simp
    case h2 => intro a ha; simp
    case h3 => intro a ha s' w; simp
    case h4 => intro a ha _ s' w; simp
    case h5 => intro a ha _ s' w; simp
    case h6 => intro a ha; simp
    rw [filter_tt]
    have := putAllN0 (fun j : Bool => D.bl j) (f.aims.map fun a => (a, true))
    rw [dPuts_len ok.nd, List.map_map] at this
    rw [List.map_map]
    exact congrArg (fun z => Rs.ok (Val.d (D.dic false z)) _) this
  have e3 : f.aims.all isNm = true := List.all_eq_true.mpr ok.nm
  have e4 : (decide ((1 : Int) ≤ f.side) && decide (f.side ≤ 2)) = true := by
    rcases ok.side with h | h <;> rw [h] <;> rfl
  rw [filter_tt] at e1
  simp only [List.length_cons, List.length_nil, Nat.reduceAdd, Nat.reduceSub, List.map_cons, List.map_nil, List.reduceReplicate, List.cons_append, List.nil_append]
  simp only [dS_Fieldu__initu_, ev_sSeq, ev_sIf, ev_not, ev_vT, ev_call, ev_cons, ev_var, List.getElem?_cons_succ, List.getElem?_cons_zero, optV_some, bind_ok, ev_bnd, ev_con, ev_nil, ev_ret, G_int_ok w0, e4, ev_asB, bindE_ok, Bool.not_true, Bool.false_eq_true, if_false, ev_sPass, seq_nx, ev_or, ev_dB, e1, ev_all, e3, ev_cmp, e2, ev_bLen, ev_snap, ev_lenD, ev_lenT, List.length_map, ev_opB, ite_app]
  rw [ev_ne _ _ _ (okQ_int _ _), eqD_int]
  simp only [decide_true, Bool.not_true, bindE_ok, Bool.false_eq_true, if_false, ev_sPass, seq_nx, ev_sSeq, ev_sIf, ev_not, ev_vT, ev_isi, ev_var, List.getElem?_cons_succ, List.getElem?_cons_zero, optV_some, bind_ok, ev_bnd, ev_tagV, tag_bl, q_bool_bl, ev_optM, ev_ret, ev_asB, ev_sAttr]
  rw [ev_attrI (fld := fd_side) (.d (.int f.side)) (last_get _ _) fd_side_0 (by simp)]
  simp only [last_set, bindE_ok, seq_nx, ev_sSeq, ev_sAttr, ev_bnd, ev_var, List.getElem?_cons_succ, List.getElem?_cons_zero, optV_some, bind_ok, putN]
  rw [ev_attrI (fld := fd_aims) (.d (.tup (f.aims.map eN))) (last_get _ _) fd_aims_0 (by simp)]
  simp only [last_set, bindE_ok, seq_nx, ev_sAttr, ev_bnd, ev_var, List.getElem?_cons_succ, List.getElem?_cons_zero, optV_some, bind_ok, putN, Nat.zero_ne_one, if_false]
  rw [ev_attrI (fld := fd_is_goal) (.d (.bl f.goal)) (last_get _ _) fd_is_goal_0 (by simp)]
  simp only [last_set, bindE_ok, fin_nx, putN]
  rw [trunc_same (by simpa [putN] using w3) (by simp)]
  simp [putN]
theorem mk_field {f : Fl} (ok : OkF f) {ks : List Val} (hk : starK false ks = some (.d (.bl f.goal))) : dMake false 3 0 G_Fieldu__initu_ (.d (.int f.side) :: f.aims.map fun a => .d (eN a)) ks st = .ok (.d (eF f)) st :=
  ev_make (init_field hw ok hk) rfl rfl hw
/-! ### boards -/
theorem G_field_of_ok {l : List (Str × Fl)} {f : Fl} (hn : f.aims.length ≤ 1000) : G_is_field_of [.d (eLn l), .d (eF f)] [] st = .ok (.d (.bl (f.aims.all fun a => decide (a ∈ l.map (·.1))))) st := by
  simp only [G_is_field_of, ev_def2, dS_is_field_of]
  have e1 : dLc (iSeq (dFld fd_aims (dVar 1))) (tgN 2) tYs (tV (tCmp .inn (dVar 2) (dVar 0))) [2] false [some (.d (eLn l)), some (.d (eF f)), none] st = .ok (.d (.lst ((f.aims.filter fun _ => true).map fun a => .bl (decide (a ∈ l.map (·.1)))))) st := by
    rw [ev_dLc (enc := eN) (E := fun o => [some (.d (eLn l)), some (.d (eF f)), some (.d (eN o))]) (p := fun _ => true) f.aims (fun a => .bl (decide (a ∈ l.map (·.1)))) ?h1 hw (by omega) ?h2 ?h3 ?h4]
    case h1 => simp
    case h2 => intro a ha; simp
    case h3 => intro a ha s' w; simp
    case h4 =>
      intro a ha _ s' w
      have e : inD (eN a) (eLn l) s' = .ok (decide (a ∈ l.map (·.1))) s' := by
        unfold eLn
        rw [ev_inK _ _ _ _ (isKey_eN _), look_names, Option.isSome_map, lookup_isSome]
      simp only [ev_tV, ev_cmp, ev_var, List.getElem?_cons_succ, List.getElem?_cons_zero, optV_some, bind_ok, ev_bnd, ev_opB, ev_snap, ev_inn, e, ev_ret]
  rw [filter_tt] at e1
  have e2 : tagD (eF f) = .ins 0 := rfl
  simp only [Nat.reduceSub, List.reduceReplicate, ev_sRet, ev_vAnd, ev_isi, ev_var, List.getElem?_cons_succ, List.getElem?_cons_zero, optV_some, bind_ok, ev_bnd, ev_tagV, e2, q_Field_0, ev_optM, ev_ret, ev_asB, beq_self_eq_true, if_true, ev_dB, ev_cons, ev_nil, e1, ev_all, bindE_ok, fin_rt, trunc_self hw]
omit hw
theorem pairs_lines (l : List (Str × Fl)) : pairs (l.map fun p => (eN p.1, eF p.2)) = l.map fun p => .tup [eN p.1, eF p.2] := by
  unfold pairs
  rw [List.map_map]
  rfl
theorem pairs_fees (l : List (Mv × Int)) : pairs (l.map fun p => (eM p.1, .int p.2)) = l.map fun p => .tup [eM p.1, .int p.2] := by
  unfold pairs
  rw [List.map_map]
  rfl
@[simp] theorem items_eLn (l : List (Str × Fl)) (s : Sto) : itemsV (.d (eLn l)) s = .ok (.its (l.map fun p => .tup [eN p.1, eF p.2])) s := by
  show Rs.ok (Src.its (pairs _)) s = _
  rw [pairs_lines]
@[simp] theorem items_eFe (l : List (Mv × Int)) (s : Sto) : itemsV (.d (eFe l)) s = .ok (.its (l.map fun p => .tup [eM p.1, .int p.2])) s := by
  show Rs.ok (Src.its (pairs _)) s = _
  rw [pairs_fees]
def isFe (l : List (Str × Fl)) (fe : List (Mv × Int)) : Bool := fe.all fun p => isMv l p.1 && (decide (1 ≤ p.2) && decide (p.2 ≤ 9))
include hw
theorem G_prices_ok {l : List (Str × Fl)} {fe : List (Mv × Int)} (hl : ∀ p ∈ l, ∀ a ∈ p.2.aims, Nm a) (hf : ∀ p ∈ fe, MOk p.1) (hn : fe.length ≤ 6) : G_are_prices [.d (eLn l), .d (eFe fe)] [] st = .ok (.d (.bl (isFe l fe))) st := by
  simp only [G_are_prices, ev_def2, dS_are_prices]
  have e1 : dLc (iItems (dVar 1)) (tgT [2, 3]) tYs (vAnd (dCallG G_is_move (dCons (dVar 0) (dCons (dVar 2) dNil))) (dCallG G_is_integer (dCons (dVar 3) (dCons (dCon (.int 1)) (dCons (dCon (.int 9)) dNil))))) [2, 3] false [some (.d (eLn l)), some (.d (eFe fe)), none, none] st =
      .ok (.d (.lst ((fe.filter fun _ => true).map fun p => .bl (isMv l p.1 && (decide (1 ≤ p.2) && decide (p.2 ≤ 9)))))) st := by
    rw [ev_dLc (enc := fun p : Mv × Int => .tup [eM p.1, .int p.2]) (E := fun p => [some (.d (eLn l)), some (.d (eFe fe)), some (.d (eM p.1)), some (.d (.int p.2))]) (p := fun _ => true) fe (fun p => .bl (isMv l p.1 && (decide (1 ≤ p.2) && decide (p.2 ≤ 9)))) ?h1 hw (by omega) ?h2 ?h3 ?h4]
    case h1 => simp
    case h2 => intro a ha; simp
    case h3 => intro a ha s' w; simp
    case h4 =>
      intro a ha _ s' w
      simp [G_move_ok w hl (hf a ha), G_int_ok w]
      cases isMv l a.1 <;> simp [G_int_ok w]
  rw [filter_tt] at e1
  have e2 : tagD (eFe fe) = .dic := rfl
  have e3 : lenD (eFe fe) st = .ok (.d (.int (fe.length : Nat))) st := by
    show Rs.ok (Val.d (.int ((fe.map fun p => (eM p.1, D.int p.2)).length : Nat))) st = _
    rw [List.length_map]
  have e4 : ¬ ((6 : Int) < fe.length) := by omega
  simp [e1, e2, e3, e4, trunc_self hw]
  rfl
theorem G_init_board {b : Bd} (ok : OkB b) : G_Boardu__initu_ [.cell st.length, .d (eLn b.lines), .d (eN b.start), .d (eFe b.fees)] [] (st ++ [some (.ins 1 [])]) =
    .ok (.d .non) (st ++ [some (.ins 1 [(0, .d (eLn b.lines)), (1, .d (eN b.start)), (2, .d (eFe b.fees))])]) := by
  have w0 := Wf.ins hw 1 [] rfl
  have w1 := Wf.ins hw 1 [(0, .d (eLn b.lines))] rfl
  have w2 := Wf.ins hw 1 [(0, .d (eLn b.lines)), (1, .d (eN b.start))] rfl
  have w3 := Wf.ins hw 1 [(0, .d (eLn b.lines)), (1, .d (eN b.start)), (2, .d (eFe b.fees))] rfl
  simp only [G_Boardu__initu_, ev_def4, dS_Boardu__initu_]
  have hlen := ok.len
  have hmlen := ok.mlen
  have hpos : 1 ≤ b.lines.length := by
    have := List.length_pos_of_mem ok.start
    rw [names_len] at this
    omega
  have e2 : tagD (eLn b.lines) = .dic := rfl
  have e3 : ∀ s, lenD (eLn b.lines) s = .ok (.d (.int (b.lines.length : Nat))) s := fun s => by
    show Rs.ok (Val.d (.int ((b.lines.map fun p => (eN p.1, eF p.2)).length : Nat))) s = _
    rw [List.length_map]
  have e4 : ((1 : Int) ≤ b.lines.length) := by omega
  have e5 : ((b.lines.length : Int) ≤ 8) := by omega
  have ea : ∀ p ∈ b.lines, p.2.aims.length ≤ 1000 := fun p hp => by
    have := aims_len ok (n := p.1) (List.mem_map_of_mem hp)
    rw [Bd.fl_mem ok hp] at this
    omega
  have loop : ∃ x4 x5, forL (tgT [4, 5]) L_Boardu__initu__0 (b.lines.map fun p => .tup [eN p.1, eF p.2]) [some (.cell st.length), some (.d (eLn b.lines)), some (.d (eN b.start)), some (.d (eFe b.fees)), none, none, none, none] (st ++ [some (.ins 1 [])]) =
      .nx [some (.cell st.length), some (.d (eLn b.lines)), some (.d (eN b.start)), some (.d (eFe b.fees)), x4, x5, none, none] (st ++ [some (.ins 1 [])]) := by
    obtain ⟨e', s', h1, ⟨x4, x5, h2⟩, h3⟩ := forL_fold (g := tgT [4, 5]) (p := L_Boardu__initu__0) (enc := fun p : Str × Fl => .tup [eN p.1, eF p.2])
      (fun (_ : Unit) e s => (∃ x4 x5, e = [some (.cell st.length), some (.d (eLn b.lines)), some (.d (eN b.start)), some (.d (eFe b.fees)), x4, x5, none, none]) ∧ s = st ++ [some (.ins 1 [])]) (fun a _ => a) b.lines () _ _ ⟨⟨none, none, rfl⟩, rfl⟩ (by
      rintro _ p e s hp ⟨⟨x4, x5, rfl⟩, rfl⟩
      have hn : p.1 ∈ b.names := List.mem_map_of_mem hp
      have hc : (p.2.aims.all fun a => decide (a ∈ b.lines.map (·.1))) = true := by
        rw [List.all_eq_true]
        intro a ha
        rw [← Bd.fl_mem ok hp] at ha
        exact decide_eq_true (ok.closed p.1 hn a ha)
      refine ⟨_, _, ?_, ⟨some (.d (eN p.1)), some (.d (eF p.2)), rfl⟩, rfl⟩
      simp only [forStep, ev_tgT _ _ _ (show ([eN p.1, eF p.2] : List D).length = [4, 5].length from rfl), L_Boardu__initu__0]
      simp [G_name_ok w0 (isNm_len (ok.vn p.1 hn)), ok.vn p.1 hn, G_field_of_ok w0 (l := b.lines) (f := p.2) (ea p hp)]
      have hc' : ∀ x ∈ p.2.aims, ∃ f, (x, f) ∈ b.lines := fun x hx => by
        have := of_decide_eq_true (List.all_eq_true.mp hc x hx)
        obtain ⟨q, hq, e⟩ := List.mem_map.mp this
        exact ⟨q.2, by rw [← e]; exact hq⟩
      exact fun x hx hn => absurd (hc' x hx) fun ⟨f, hf⟩ => hn f hf)
    exact ⟨x4, x5, by rw [h1, h2, h3]⟩
  obtain ⟨x4, x5, loop⟩ := loop
  have e6 : ∀ s, inD (eN b.start) (eLn b.lines) s = .ok true s := fun s => by
    unfold eLn
    rw [ev_inK _ _ _ _ (isKey_eN _), look_names, Option.isSome_map, b.look ok.start]
    rfl
  have e7 : isFe b.lines b.fees = true := by
    unfold isFe
    rw [List.all_eq_true]
    intro p hp
    have hm : p.1 ∈ b.moves := List.mem_map_of_mem hp
    have hc := ok.cost p hp
    rw [Bool.and_eq_true, Bool.and_eq_true]
    exact ⟨isMv_iff.mpr (ok.mv _ hm), decide_eq_true hc.1, decide_eq_true hc.2⟩
  have e8 := G_prices_ok w0 (l := b.lines) (fe := b.fees) ok.aims_nm (fun p hp => ok.mv_ok (List.mem_map_of_mem hp)) hmlen
  rw [e7] at e8
  have hnd : (b.lines.map (·.1)).Nodup := ok.nd
  have hmd : (b.fees.map (·.1)).Nodup := ok.mnd
  have e9 : ∀ y4 y5, dDc false (iItems (dVar 1)) (tgT [4, 5]) tYs (dVar 4) (dVar 5) [4, 5] [some (.cell st.length), some (.d (eLn b.lines)), some (.d (eN b.start)), some (.d (eFe b.fees)), y4, y5, none, none] (st ++ [some (.ins 1 [])]) =
      .ok (.d (eLn b.lines)) (st ++ [some (.ins 1 [])]) := fun y4 y5 => by
    rw [ev_dDc (enc := fun p : Str × Fl => .tup [eN p.1, eF p.2]) (E := fun p => [some (.cell st.length), some (.d (eLn b.lines)), some (.d (eN b.start)), some (.d (eFe b.fees)), some (.d (eN p.1)), some (.d (eF p.2)), none, none]) (p := fun _ => true) false b.lines (fun p => eN p.1) (fun p => eF p.2) ?h1 w0 (by omega) ?h2 ?h3 ?h4 ?h5 ?h6]
    case h1 => simp
    case h2 => intro a ha; simp
    case h3 => intro a ha s' w; simp
    case h4 => intro a ha _ s' w; simp
    case h5 => intro a ha _ s' w; simp
    case h6 => intro a ha; simp
    rw [filter_tt, putAllN0 eF b.lines, dPuts_nil hnd]
    rfl
  have e10 : dDc true (iItems (dVar 3)) (tgT [6, 7]) tYs (dVar 6) (dVar 7) [6, 7] [some (.cell st.length), some (.d (eLn b.lines)), some (.d (eN b.start)), some (.d (eFe b.fees)), x4, x5, none, none] (st ++ [some (.ins 1 [(0, .d (eLn b.lines)), (1, .d (eN b.start))])]) =
      .ok (.d (eFe b.fees)) (st ++ [some (.ins 1 [(0, .d (eLn b.lines)), (1, .d (eN b.start))])]) := by
    rw [ev_dDc (enc := fun p : Mv × Int => .tup [eM p.1, .int p.2]) (E := fun p => [some (.cell st.length), some (.d (eLn b.lines)), some (.d (eN b.start)), some (.d (eFe b.fees)), x4, x5, some (.d (eM p.1)), some (.d (.int p.2))]) (p := fun _ => true) true b.fees (fun p => eM p.1) (fun p => .int p.2) ?h1 w2 (by omega) ?h2 ?h3 ?h4 ?h5 ?h6]
    case h1 => simp
    case h2 => intro a ha; simp
    case h3 => intro a ha s' w; simp
    case h4 => intro a ha _ s' w; simp
    case h5 => intro a ha _ s' w; simp
    case h6 => intro a ha; simp
    rw [filter_tt, putAllM0 (fun i => D.int i) b.fees, dPuts_nil hmd]
    rfl
  simp only [Nat.reduceSub, List.reduceReplicate, ev_sSeq, ev_sIf, ev_or, ev_not, ev_vT, ev_isi, ev_var, List.getElem?_cons_succ, List.getElem?_cons_zero, optV_some, bind_ok, ev_bnd, ev_tagV, e2, q_dict_dic, ev_optM, ev_ret, ev_asB, Bool.not_true, Bool.false_eq_true, if_false, ev_chain, ev_con, ev_dB, ev_cons, ev_nil, ev_bLen, ev_snap, e3, ev_opB, ev_le, e4, e5, decide_true, if_true, bindE_ok, ev_sPass, seq_nx, ev_forS, ev_iItems, items_eLn, ev_forR, loop, ite_app]
  have e11 : tagD (eN b.start) = .str := rfl
  simp only [Nat.reduceSub, List.reduceReplicate, ev_sSeq, ev_sIf, ev_or, ev_not, ev_vT, ev_isi, ev_var, List.getElem?_cons_succ, List.getElem?_cons_zero, optV_some, bind_ok, ev_bnd, ev_tagV, e11, q_str_str, ev_optM, ev_ret, ev_asB, Bool.not_true, Bool.false_eq_true, if_false, ev_cmp, ev_opB, ev_snap, ev_nin, e6, bindE_ok, ev_sPass, seq_nx, ite_app, ev_call, ev_cons, ev_nil, e8]
  simp only [ev_sAttr, ev_bnd, e9, bind_ok, ev_var, List.getElem?_cons_succ, List.getElem?_cons_zero, optV_some]
  rw [ev_attrI (fld := fd_lines) (.d (eLn b.lines)) (last_get _ _) fd_lines_1 (by simp)]
  simp only [last_set, bindE_ok, seq_nx, ev_sSeq, ev_sAttr, ev_bnd, ev_var, List.getElem?_cons_succ, List.getElem?_cons_zero, optV_some, bind_ok, putN]
  rw [ev_attrI (fld := fd_begin) (.d (eN b.start)) (last_get _ _) fd_begin_1 (by simp)]
  simp only [last_set, bindE_ok, seq_nx, ev_sAttr, ev_bnd, ev_var, List.getElem?_cons_succ, List.getElem?_cons_zero, optV_some, bind_ok, putN, Nat.zero_ne_one, if_false, e10]
  rw [ev_attrI (fld := fd_fees) (.d (eFe b.fees)) (last_get _ _) fd_fees_1 (by simp)]
  simp only [last_set, bindE_ok, fin_nx, putN]
  rw [trunc_same (by simpa [putN] using w3) (by simp)]
  simp [putN]
theorem mk_board {b : Bd} (ok : OkB b) : dMake false 3 1 G_Boardu__initu_ [.d (eLn b.lines), .d (eN b.start), .d (eFe b.fees)] [] st = .ok (.d (eB b)) st :=
  ev_make (G_init_board hw ok) rfl rfl hw
end
end Pg
/-! FpG -/
/-! FpG: distances, is_winning, ranks, traps. -/
namespace Pg
open PySem Fb
def eO (o : Option Int) : D := match o with
  | some i => .int i
  | none => .non
def eDo (l : List (Str × Option Int)) : D := .dic false (l.map fun p => (eN p.1, eO p.2))
def distances (b : Bd) (s : List Mv) : List (Str × Option Int) := b.names.map fun n => (n, (distancesOf b s).lookup n)
@[simp] theorem ev_get2 (fd fk fz : DE) (e : DEnv) (s : Sto) : dGet2 fd fk fz e s = (fd e s).bind fun d => bnd (isTg isDc d) fun _ => bnd (fk e) fun k => bnd (fz e) fun z => Fb.getD d k z := rfl
theorem ev_isDc (b : Bool) (l : List (D × D)) (s : Sto) : isTg isDc (.d (.dic b l)) s = .ok () s := rfl
theorem ev_getDi (l : List (Str × Int)) (n : Str) (s : Sto) : Fb.getD (.d (eDi l)) (.d (eN n)) (.d .non) s = .ok (.d (eO (l.lookup n))) s := by
  show (if isKey false (eN n) = true then (match Fb.look (eN n) (l.map fun p => (eN p.1, D.int p.2)) with
    | some r => Fb.ret (.d r)
    | none => Fb.ret (.d .non)) else stk : M Val) s = _
  rw [if_pos (isKey_eN n), look_names (fun i => D.int i)]
  cases l.lookup n <;> rfl
/-- what a check hands back -/
theorem sExpr_ok {e : DEnv} {s : Sto} {f : DE} {v : Val} (h : f e s = .ok v s) : sExpr f e s = .nx e s := by rw [ev_sExpr, h]; rfl
def tgd (x : D) : Tg := tagD x
section
variable {b : Bd} (ok : OkB b) {s : List Mv} (hs : isSt b s = true) (hn : s.length ≤ 1000) {st : Sto} (hw : Wf st)
include ok hs hn hw
theorem G_distances_ok : G_distances [.d (eB b), .d (eS s)] [] st = .ok (.d (eDo (distances b s))) st := by
  simp only [G_distances, ev_def2, dS_distances]
  have hs' := isSt_ok ok hs
  have e1 : dDc false (iSeq (dFld fd_lines (dVar 0))) (tgN 3) tYs (dVar 3) (dGet2 (dVar 2) (dVar 3) (dCon .non)) [3] [some (.d (eB b)), some (.d (eS s)), some (.d (eDi (distancesOf b s))), none] st = .ok (.d (eDo (distances b s))) st := by
    rw [ev_dDc (enc := eN) (E := fun n => [some (.d (eB b)), some (.d (eS s)), some (.d (eDi (distancesOf b s))), some (.d (eN n))]) (p := fun _ => true) false b.names eN (fun n => eO ((distancesOf b s).lookup n)) ?h1 hw ?h0 ?h2 ?h3 ?h4 ?h5 ?h6]
    case h1 => simp [Bd.names]
    case h0 =>
      have := ok.len
      rw [names_len]
      omega
    case h2 => intro a ha; simp
    case h3 => intro a ha s' w; simp
    case h4 => intro a ha _ s' w; simp
    case h5 =>
      intro a ha _ s' w
      have : isTg isDc (.d (eDi (distancesOf b s))) s' = .ok () s' := rfl
      simp [this, ev_getDi]
    case h6 => intro a ha; simp
    rw [filter_tt]
    have := putAllN0 eO (b.names.map fun n => (n, (distancesOf b s).lookup n))
    rw [dPuts_len ok.nd, List.map_map] at this
    show Rs.ok (Val.d (D.dic false (putAll [] (b.names.map ((fun p : Str × Option Int => (eN p.1, eO p.2)) ∘ fun n => (n, (distancesOf b s).lookup n)))))) st = _
    rw [this]
    unfold eDo distances
    rw [List.map_map]
  simp [G_cs_ok ok hw hs hn, G_dist_ok ok hs' hw, e1, trunc_self hw]
def wins (b : Bd) (s : List Mv) : Bool := decide (b.start ∈ keys (distancesOf b s))
theorem G_is_winning_ok : G_is_winning [.d (eB b), .d (eS s)] [] st = .ok (.d (.bl (wins b s))) st := by
  simp only [G_is_winning, ev_def2, dS_is_winning]
  simp [G_cs_ok ok hw hs hn, G_wins_ok ok (isSt_ok ok hs) hw, trunc_self hw]
  rfl
end
/-! ### ranks -/
def rankOk (b : Bd) (s : List Mv) (r : List (Str × Int)) (n : Str) : Bool := (b.fl n).goal ||
  (if (b.fl n).side = 1 then (ways b n s).any fun o => (match r.lookup o, r.lookup n with | some x, some y => decide (x < y) | _, _ => false)
    else (ways b n s).all fun o => (match r.lookup o, r.lookup n with | some x, some y => decide (x < y) | _, _ => false))
def ranksOk (b : Bd) (s : List Mv) (r : List (Str × Int)) : Bool := decide (b.start ∈ keys r) && (keys r).all (rankOk b s r)
theorem ix_eDi {l : List (Str × Int)} {n : Str} {i : Int} (h : l.lookup n = some i) (s : Sto) : ixD (eDi l) (eN n) s = .ok (.int i) s := by
  unfold eDi
  rw [ev_ixK _ _ _ _ (isKey_eN _), look_names (fun i => D.int i), h]
  rfl
theorem in_eDi (l : List (Str × Int)) (n : Str) (s : Sto) : inD (eN n) (eDi l) s = .ok (l.lookup n).isSome s := by
  unfold eDi
  rw [ev_inK _ _ _ _ (isKey_eN _), look_names (fun i => D.int i), Option.isSome_map]
theorem in_keys (l : List (Str × Int)) (n : Str) (s : Sto) : inD (eN n) (eDi l) s = .ok (decide (n ∈ keys l)) s := by
  rw [in_eDi, lookup_isSome]
  rfl
@[simp] theorem src_eDi (l : List (Str × Int)) (s : Sto) : srcOf (.d (eDi l)) s = .ok (.its ((keys l).map eN)) s := by
  show Rs.ok (Src.its ((l.map fun p => (eN p.1, D.int p.2)).map (·.1))) s = _
  unfold keys
  rw [List.map_map, List.map_map]
  rfl
section
variable {b : Bd} (ok : OkB b) {s : List Mv} (hs : SOk s) {st : Sto} (hw : Wf st)
include ok hs hw
theorem G_rank_ok {r : List (Str × Int)} {n : Str} {y : Int} (hn : n ∈ b.names) (hr : r.lookup n = some y) : G_is_right_rank [.d (eB b), .d (eS s), .d (eDi r), .d (eN n)] [] st = .ok (.d (.bl (rankOk b s r n))) st := by
  simp only [G_is_right_rank, ev_def4, dS_is_right_rank]
  have e1 : dLc (iSeq (dCallG G_ways (dCons (dVar 0) (dCons (dVar 3) (dCons (dVar 1) dNil))))) (tgN 6) tYs (vAnd (tV (tCmp .inn (dVar 6) (dVar 2))) (tV (tCmp .lt (dIx (dVar 2) (dVar 6)) (dIx (dVar 2) (dVar 3))))) [6] false [some (.d (eB b)), some (.d (eS s)), some (.d (eDi r)), some (.d (eN n)), some (.d (eF (b.fl n))), none, none] st =
      .ok (.d (.lst (((ways b n s).filter fun _ => true).map fun o => .bl (match r.lookup o, r.lookup n with | some x, some y => decide (x < y) | _, _ => false)))) st := by
    rw [ev_dLc (enc := eN) (E := fun o => [some (.d (eB b)), some (.d (eS s)), some (.d (eDi r)), some (.d (eN n)), some (.d (eF (b.fl n))), none, some (.d (eN o))]) (p := fun _ => true) (ways b n s) (fun o => .bl (match r.lookup o, r.lookup n with | some x, some y => decide (x < y) | _, _ => false)) ?h1 hw ?h0 ?h2 ?h3 ?h4]
    case h1 => simp [G_ways_ok ok hn hs hw]
    case h0 => have := ways_len ok hn s; omega
    case h2 => intro a ha; simp
    case h3 => intro a ha s' w; simp
    case h4 =>
      intro a ha _ s' w
      cases q : r.lookup a with
      | none => simp [in_eDi, q]
      | some x => simp [in_eDi, q, hr, ix_eDi q, ix_eDi hr]
  rw [filter_tt] at e1
  simp [hn]
  cases hg : (b.fl n).goal with
  | true => simp [rankOk, hg, trunc_self hw]
  | false =>
    simp [e1]
    rw [ev_eq _ _ _ (okQ_int _ _), eqD_int]
    unfold rankOk
    rw [hg]
    by_cases h : (b.fl n).side = 1 <;> simp [h, trunc_self hw]
theorem G_ranks_ok {r : List (Str × Int)} (hr : ∀ n ∈ keys r, n ∈ b.names) (hn : r.length ≤ 1000) : G_are_right_ranks [.d (eB b), .d (eS s), .d (eDi r)] [] st = .ok (.d (.bl (ranksOk b s r))) st := by
  simp only [G_are_right_ranks, ev_def3, dS_are_right_ranks]
  have e1 : dLc (iSeq (dVar 2)) (tgN 3) tYs (dCallG G_is_right_rank (dCons (dVar 0) (dCons (dVar 1) (dCons (dVar 2) (dCons (dVar 3) dNil))))) [3] false [some (.d (eB b)), some (.d (eS s)), some (.d (eDi r)), none] st = .ok (.d (.lst (((keys r).filter fun _ => true).map fun n => .bl (rankOk b s r n)))) st := by
    rw [ev_dLc (enc := eN) (E := fun o => [some (.d (eB b)), some (.d (eS s)), some (.d (eDi r)), some (.d (eN o))]) (p := fun _ => true) (keys r) (fun n => .bl (rankOk b s r n)) ?h1 hw ?h0 ?h2 ?h3 ?h4]
    case h1 => simp
    case h0 => unfold keys; rw [List.length_map]; omega
    case h2 => intro a ha; simp
    case h3 => intro a ha s' w; simp
    case h4 =>
      intro a ha _ s' w
      obtain ⟨y, hy, _⟩ := lookup_mem (l := r) (x := a) ha
      simp [G_rank_ok ok hs w (hr a ha) hy]
  rw [filter_tt] at e1
  simp [in_keys]
  unfold ranksOk
  by_cases h : b.start ∈ keys r
  · simp [h, e1, trunc_self hw]
  · simp [h, trunc_self hw]
end
@[simp] theorem items_eDi (l : List (Str × Int)) (s : Sto) : itemsV (.d (eDi l)) s = .ok (.its (l.map fun p => .tup [eN p.1, .int p.2])) s := by
  show Rs.ok (Src.its (pairs _)) s = _
  unfold pairs
  rw [List.map_map]
  rfl
section
variable {b : Bd} (ok : OkB b) {s : List Mv} (hs : isSt b s = true) (hn : s.length ≤ 1000) {st : Sto} (hw : Wf st)
include ok hs hn hw
theorem in_lines {n : Str} (hn : n ∈ b.names) (s : Sto) : inD (eN n) (eLn b.lines) s = .ok true s := by
  unfold eLn
  rw [ev_inK _ _ _ _ (isKey_eN _), look_names, Option.isSome_map, b.look hn]
  rfl
theorem G_are_ranks_ok {r : List (Str × Int)} (hr : ∀ p ∈ r, p.1 ∈ b.names ∧ 0 ≤ p.2) (hl : r.length ≤ 1000) : G_are_ranks [.d (eB b), .d (eS s), .d (eDi r)] [] st = .ok (.d (.bl (ranksOk b s r))) st := by
  simp only [G_are_ranks, ev_def3, dS_are_ranks]
  have loop : ∃ x3 x4, forL (tgT [3, 4]) L_are_ranks_0 (r.map fun p => .tup [eN p.1, .int p.2]) [some (.d (eB b)), some (.d (eS s)), some (.d (eDi r)), none, none] st = .nx [some (.d (eB b)), some (.d (eS s)), some (.d (eDi r)), x3, x4] st := by
    obtain ⟨e', s', h1, ⟨x4, x5, h2⟩, h3⟩ := forL_fold (g := tgT [3, 4]) (p := L_are_ranks_0) (enc := fun p : Str × Int => .tup [eN p.1, .int p.2])
      (fun (_ : Unit) e s' => (∃ x4 x5, e = [some (.d (eB b)), some (.d (eS s)), some (.d (eDi r)), x4, x5]) ∧ s' = st) (fun a _ => a) r () _ _ ⟨⟨none, none, rfl⟩, rfl⟩ (by
      rintro _ p e s hp ⟨⟨x4, x5, rfl⟩, rfl⟩
      obtain ⟨h1, h2⟩ := hr p hp
      have e1 : tagD (eN p.1) = .str := rfl
      have e2 : ¬ p.2 < 0 := by omega
      refine ⟨_, _, ?_, ⟨some (.d (eN p.1)), some (.d (.int p.2)), rfl⟩, rfl⟩
      simp only [forStep, ev_tgT _ _ _ (show ([eN p.1, D.int p.2] : List D).length = [3, 4].length from rfl), L_are_ranks_0]
      simp [e1, in_lines ok hs hn hw h1, e2])
    exact ⟨x4, x5, by rw [h1, h2, h3]⟩
  obtain ⟨x3, x4, loop⟩ := loop
  have e3 : tagD (eDi r) = .dic := rfl
  have e4 := G_ranks_ok ok (isSt_ok ok hs) hw (r := r) (fun n hn => by
    obtain ⟨p, hp, e⟩ := List.mem_map.mp hn
    rw [← e]
    exact (hr p hp).1) hl
  simp [G_cs_ok ok hw hs hn, e3, loop, e4, trunc_self hw]
end
/-! ### traps -/
abbrev Tr := List (Str × Option Str)
def eOs (o : Option Str) : D := match o with
  | some x => eN x
  | none => .non
def eTr (t : Tr) : D := .dic false (t.map fun p => (eN p.1, eOs p.2))
def tkeys (t : Tr) : List Str := t.map (·.1)
def trapOk1 (b : Bd) (t : Tr) (p : Str × Option Str) : Bool := !(b.fl p.1).goal && (decide ((b.fl p.1).side = 1) == p.2.isNone) && (match p.2 with | some o => decide (o ∈ (b.fl p.1).aims) && decide (o ∈ tkeys t) | none => true)
def trapOk (b : Bd) (t : Tr) : Bool := decide (b.start ∈ tkeys t) && t.all (trapOk1 b t)
def holdsAg1 (b : Bd) (s : List Mv) (t : Tr) (p : Str × Option Str) : Bool := match p.2 with
  | some o => !decide ((p.1, o) ∈ s)
  | none => (ways b p.1 s).all fun o => decide (o ∈ tkeys t)
def holdsAg (b : Bd) (s : List Mv) (t : Tr) : Bool := t.all (holdsAg1 b s t)
theorem in_eTr (t : Tr) (n : Str) (s : Sto) : inD (eN n) (eTr t) s = .ok (decide (n ∈ tkeys t)) s := by
  unfold eTr
  rw [ev_inK _ _ _ _ (isKey_eN _), look_names, Option.isSome_map, lookup_isSome]
  rfl
@[simp] theorem items_eTr (t : Tr) (s : Sto) : itemsV (.d (eTr t)) s = .ok (.its (t.map fun p => .tup [eN p.1, eOs p.2])) s := by
  show Rs.ok (Src.its (pairs _)) s = _
  unfold pairs
  rw [List.map_map]
  rfl
structure TrOk (b : Bd) (t : Tr) : Prop where
  k : ∀ p ∈ t, p.1 ∈ b.names
  v : ∀ p ∈ t, ∀ o, p.2 = some o → o ∈ b.names
  len : t.length ≤ 1000
  nd : (tkeys t).Nodup
@[simp] theorem isNonD_eN (x : Str) : isNonD (eN x) = false := by unfold isNonD; rfl
@[simp] theorem isNonD_eOs (o : Option Str) : isNonD (eOs o) = o.isNone := by cases o <;> rfl
@[simp] theorem tag_eN (x : Str) : tagD (eN x) = .str := rfl
section
variable {b : Bd} (ok : OkB b) {st : Sto} (hw : Wf st) {t : Tr} (ht : TrOk b t)
include ok hw ht
theorem G_check_trap_ok : G_check_trap [.d (eB b), .d (eTr t)] [] st = .ok (.d .non) st := by
  simp only [G_check_trap, ev_def2, dS_check_trap]
  have loop : ∃ x3 x4, forL (tgT [2, 3]) L_check_trap_0 (t.map fun p => .tup [eN p.1, eOs p.2]) [some (.d (eB b)), some (.d (eTr t)), none, none] st = .nx [some (.d (eB b)), some (.d (eTr t)), x3, x4] st := by
    obtain ⟨e', s', h1, ⟨x4, x5, h2⟩, h3⟩ := forL_fold (g := tgT [2, 3]) (p := L_check_trap_0) (enc := fun p : Str × Option Str => .tup [eN p.1, eOs p.2])
      (fun (_ : Unit) e s' => (∃ x4 x5, e = [some (.d (eB b)), some (.d (eTr t)), x4, x5]) ∧ s' = st) (fun a _ => a) t () _ _ ⟨⟨none, none, rfl⟩, rfl⟩ (by
      rintro _ p e s hp ⟨⟨x4, x5, rfl⟩, rfl⟩
      have h1 := ht.k p hp
      have e0 : inD (eN p.1) (eLn b.lines) s = .ok true s := by
        unfold eLn
        rw [ev_inK _ _ _ _ (isKey_eN _), look_names, Option.isSome_map, b.look h1]
        rfl
      refine ⟨_, _, ?_, ⟨some (.d (eN p.1)), some (.d (eOs p.2)), rfl⟩, rfl⟩
      simp only [forStep, ev_tgT _ _ _ (show ([eN p.1, eOs p.2] : List D).length = [2, 3].length from rfl), L_check_trap_0]
      cases q : p.2 with
      | none => simp [e0, q, eOs]
      | some o =>
        have e1 : inD (eN o) (eLn b.lines) s = .ok true s := by
          unfold eLn
          rw [ev_inK _ _ _ _ (isKey_eN _), look_names, Option.isSome_map, b.look (ht.v p hp o q)]
          rfl
        simp [e0, q, eOs, e1])
    exact ⟨x4, x5, by rw [h1, h2, h3]⟩
  obtain ⟨x3, x4, loop⟩ := loop
  have e3 : tagD (eTr t) = .dic := rfl
  simp [e3, loop, trunc_self hw]
theorem G_rtrap_ok : G_is_right_trap [.d (eB b), .d (eTr t)] [] st = .ok (.d (.bl (trapOk b t))) st := by
  simp only [G_is_right_trap, ev_def2, dS_is_right_trap]
  obtain ⟨h1, h2⟩ := forL_all (g := tgT [2, 3]) (p := L_is_right_trap_0) (enc := fun p : Str × Option Str => .tup [eN p.1, eOs p.2])
      (fun e s' => (∃ x2 x3 x4, e = [some (.d (eB b)), some (.d (eTr t)), x2, x3, x4]) ∧ s' = st) (trapOk1 b t) (v := .d (.bl false)) t [some (.d (eB b)), some (.d (eTr t)), none, none, none] st ⟨⟨none, none, none, rfl⟩, rfl⟩ (by
      rintro p e s hp ⟨⟨x2, x3, x4, rfl⟩, rfl⟩
      have h1 := ht.k p hp
      have key : forStep (tgT [2, 3]) L_is_right_trap_0 (.tup [eN p.1, eOs p.2]) [some (.d (eB b)), some (.d (eTr t)), x2, x3, x4] s =
          if trapOk1 b t p = true then .nx [some (.d (eB b)), some (.d (eTr t)), some (.d (eN p.1)), some (.d (eOs p.2)), some (.d (eF (b.fl p.1)))] s else .rt (.d (.bl false)) s := by
        simp only [forStep, ev_tgT _ _ _ (show ([eN p.1, eOs p.2] : List D).length = [2, 3].length from rfl), L_is_right_trap_0]
        simp [h1]
        unfold trapOk1
        cases hg : (b.fl p.1).goal with
        | true => simp
        | false =>
          simp
          rw [ev_eq _ _ _ (okQ_int _ _), eqD_int, ]
          simp
          have e5 : ∀ x y : Bool, okQ (.bl x) (.bl y) = true := fun x y => by unfold okQ; rfl
          have e6 : ∀ x y : Bool, eqD (.bl x) (.bl y) = (x == y) := fun x y => rfl
          rw [ev_ne _ _ _ (e5 _ _), e6]
          simp
          cases q : p.2 with
          | none =>
            by_cases h : (b.fl p.1).side = 1 <;> simp [h, eOs]
          | some o =>
            have e7 := isData_eN (n := 7) (ok.nm o (ht.v p hp o q))
            have e8 := all_names (n := 6) (l := (b.fl p.1).aims) (fun x hx => ok.aim_nm h1 hx)
            by_cases h : (b.fl p.1).side = 1
            · simp [h, eOs]
            · simp [h, eOs, e7, e8, inL_names, in_eTr]
              by_cases h3 : o ∈ (b.fl p.1).aims <;> by_cases h4 : o ∈ tkeys t <;> (try simp [h3, h4, in_eTr])
      rw [key]
      refine ⟨fun z => ⟨_, _, by rw [if_pos z], ⟨_, _, _, rfl⟩, rfl⟩, fun z => ⟨s, by rw [if_neg (by rw [z]; exact Bool.false_ne_true)], _, ⟨none, none, none, rfl⟩, rfl⟩⟩)
  simp [in_eTr]
  unfold trapOk
  by_cases h : b.start ∈ tkeys t
  · cases q : t.all (trapOk1 b t) with
    | true =>
      obtain ⟨e', s', h3, ⟨x2, x3, x4, rfl⟩, rfl⟩ := h1 q
      simp [h, h3, trunc_self hw]
    | false =>
      obtain ⟨s', h3, e', _, rfl⟩ := h2 q
      simp [h, h3, trunc_self hw]
  · simp [h, trunc_self hw]
theorem G_is_trap_ok : G_is_trap [.d (eB b), .d (eTr t)] [] st = .ok (.d (.bl (trapOk b t))) st := by
  simp only [G_is_trap, ev_def2, dS_is_trap]
  simp [G_cb_ok ok hw, G_check_trap_ok ok hw ht, G_rtrap_ok ok hw ht, trunc_self hw]
theorem G_against_ok {s : List Mv} (hs : SOk s) : G_holds_against [.d (eB b), .d (eS s), .d (eTr t)] [] st = .ok (.d (.bl (holdsAg b s t))) st := by
  simp only [G_holds_against, ev_def3, dS_holds_against]
  obtain ⟨h1, h2⟩ := forL_all (g := tgT [3, 4]) (p := L_holds_against_0) (enc := fun p : Str × Option Str => .tup [eN p.1, eOs p.2])
      (fun e s' => (∃ x2 x3 x4, e = [some (.d (eB b)), some (.d (eS s)), some (.d (eTr t)), x2, x3, x4]) ∧ s' = st) (holdsAg1 b s t) (v := .d (.bl false)) t [some (.d (eB b)), some (.d (eS s)), some (.d (eTr t)), none, none, none] st ⟨⟨none, none, none, rfl⟩, rfl⟩ (by
      rintro p e s' hp ⟨⟨x2, x3, x4, rfl⟩, rfl⟩
      have h1 := ht.k p hp
      have e1 : dLc (iSeq (dCallG G_ways (dCons (dVar 0) (dCons (dVar 3) (dCons (dVar 1) dNil))))) (tgN 5) tYs (tV (tCmp .inn (dVar 5) (dVar 2))) [5] false [some (.d (eB b)), some (.d (eS s)), some (.d (eTr t)), some (.d (eN p.1)), some (.d .non), x4] s' =
          .ok (.d (.lst (((ways b p.1 s).filter fun _ => true).map fun o => .bl (decide (o ∈ tkeys t))))) s' := by
        rw [ev_dLc (enc := eN) (E := fun o => [some (.d (eB b)), some (.d (eS s)), some (.d (eTr t)), some (.d (eN p.1)), some (.d .non), some (.d (eN o))]) (p := fun _ => true) (ways b p.1 s) (fun o => .bl (decide (o ∈ tkeys t))) ?h1 hw ?h0 ?h2 ?h3 ?h4]
        case h1 => simp [G_ways_ok ok h1 hs hw]
        case h0 => have := ways_len ok h1 s; omega
        case h2 => intro a ha; simp
        case h3 => intro a ha s' w; simp
        case h4 => intro a ha _ s' w; simp [in_eTr]
      rw [filter_tt] at e1
      have key : forStep (tgT [3, 4]) L_holds_against_0 (.tup [eN p.1, eOs p.2]) [some (.d (eB b)), some (.d (eS s)), some (.d (eTr t)), x2, x3, x4] s' =
          if holdsAg1 b s t p = true then .nx [some (.d (eB b)), some (.d (eS s)), some (.d (eTr t)), some (.d (eN p.1)), some (.d (eOs p.2)), x4] s' else .rt (.d (.bl false)) s' := by
        simp only [forStep, ev_tgT _ _ _ (show ([eN p.1, eOs p.2] : List D).length = [3, 4].length from rfl), L_holds_against_0]
        unfold holdsAg1
        cases q : p.2 with
        | none =>
          simp [eOs, e1]
          by_cases h : ∀ x, x ∈ ways b p.1 s → x ∈ tkeys t
          · rw [if_pos h, if_neg fun ⟨x, hx, z⟩ => z (h x hx)]
          · rw [if_neg h, if_pos]
            exact Classical.byContradiction fun z => h fun x hx => Classical.byContradiction fun y => z ⟨x, hx, y⟩
        | some o =>
          have e3 := isData_eM (n := 6) (m := (p.1, o)) ⟨ok.nm _ h1, ok.nm o (ht.v p hp o q)⟩
          have e4 : inD (eM (p.1, o)) (eS s) s' = .ok (decide ((p.1, o) ∈ s)) s' := by
            unfold eS
            rw [ev_inT _ _ _ e3 (all_moves hs), inL_moves]
          simp [eOs, e4]
          done
      rw [key]
      refine ⟨fun z => ⟨_, _, by rw [if_pos z], ⟨_, _, _, rfl⟩, rfl⟩, fun z => ⟨s', by rw [if_neg (by rw [z]; exact Bool.false_ne_true)], _, ⟨none, none, none, rfl⟩, rfl⟩⟩)
  simp
  unfold holdsAg
  cases q : t.all (holdsAg1 b s t) with
  | true =>
    obtain ⟨e', s', h3, ⟨x2, x3, x4, rfl⟩, rfl⟩ := h1 q
    simp [h3, trunc_self hw]
  | false =>
    obtain ⟨s', h3, e', _, rfl⟩ := h2 q
    simp [h3, trunc_self hw]
def holdsT (b : Bd) (s : List Mv) (t : Tr) : Bool := trapOk b t && holdsAg b s t
theorem G_holds_ok {s : List Mv} (hs : isSt b s = true) (hn : s.length ≤ 1000) : G_holds [.d (eB b), .d (eS s), .d (eTr t)] [] st = .ok (.d (.bl (holdsT b s t))) st := by
  simp only [G_holds, ev_def3, dS_holds]
  simp [G_cs_ok ok hw hs hn, G_check_trap_ok ok hw ht, G_rtrap_ok ok hw ht]
  unfold holdsT
  cases trapOk b t <;> simp [G_against_ok ok hw ht (isSt_ok ok hs), trunc_self hw]
end
end Pg
/-! FpH -/
/-! FpH: the fixed point, the trap that is found. -/
namespace Pg
open PySem Fb
/-! ### the fixed point -/
section
variable {b : Bd} (ok : OkB b) {s : List Mv}
/-- what is not found yet and could be found stands in L -/
def Full (b : Bd) (s : List Mv) (f : List (Str × Int)) (L : List Str) : Prop := ∀ n ∈ b.names, n ∉ keys f → (wonAt b s n = true ∨ leadsOn b s (keys f) n = true) → n ∈ L
theorem keys_app (f : List (Str × Int)) (L : List Str) (i : Int) : keys (f ++ L.map fun n => (n, i)) = keys f ++ L := by
  unfold keys
  rw [List.map_append, List.map_map]
  have e : (Prod.fst ∘ fun n : Str => (n, i)) = id := rfl
  rw [e, List.map_id]
theorem keys_len (f : List (Str × Int)) : (keys f).length = f.length := by unfold keys; rw [List.length_map]
structure DInv (b : Bd) (s : List Mv) (f : List (Str × Int)) (L : List Str) : Prop where
  nd : (keys f).Nodup
  sub : ∀ n ∈ keys f, n ∈ b.names
  ndL : L.Nodup
  subL : ∀ n ∈ L, n ∈ b.names ∧ n ∉ keys f
  full : Full b s f L
include ok
theorem DInv.start : DInv b s [] (b.names.filter fun n => wonAt b s n) where
  nd := by simp [keys]
  sub := by simp [keys]
  ndL := ok.nd.filter _
  subL := fun n hn => ⟨(List.mem_filter.mp hn).1, by simp [keys]⟩
  full := fun n hn _ h => by
    rw [List.mem_filter]
    refine ⟨hn, ?_⟩
    rcases h with h | h
    · exact h
    · unfold leadsOn at h
      by_cases h1 : (b.fl n).side = 1
      · rw [if_pos h1] at h
        simp [keys] at h
      · rw [if_neg h1] at h
        unfold wonAt
        have h2 : (b.fl n).side = 2 := (ok.side n hn).resolve_left h1
        simp only [h2, decide_true, Bool.true_and, Bool.or_eq_true]
        right
        simp only [keys, List.map_nil, List.not_mem_nil, decide_false, List.all_eq_true, Bool.false_eq_true] at h
        rw [List.isEmpty_iff]
        exact List.eq_nil_iff_forall_not_mem.mpr h
theorem DInv.next {f : List (Str × Int)} {L : List Str} (h : DInv b s f L) (i : Int) : DInv b s (f ++ L.map fun n => (n, i)) (nextL b s (f ++ L.map fun n => (n, i))) where
  nd := by
    rw [keys_app, List.nodup_append]
    exact ⟨h.nd, h.ndL, fun a ha c hc z => (h.subL c hc).2 (by rw [← z]; exact ha)⟩
  sub := fun n hn => by
    rw [keys_app, List.mem_append] at hn
    exact hn.elim (h.sub n) fun z => (h.subL n z).1
  ndL := ok.nd.filter _
  subL := fun n hn => by
    obtain ⟨h1, h2⟩ := List.mem_filter.mp hn
    rw [Bool.and_eq_true] at h2
    exact ⟨h1, by simpa using h2.1⟩
  full := fun n hn hk hw => by
    rw [keys_app, List.mem_append] at hk
    unfold nextL
    rw [List.mem_filter]
    refine ⟨hn, ?_⟩
    have hk2 : n ∉ keys (f ++ L.map fun n => (n, i)) := by rw [keys_app, List.mem_append]; exact hk
    rw [Bool.and_eq_true]
    refine ⟨by simpa using hk2, ?_⟩
    rcases hw with hw | hw
    · exact absurd (h.full n hn (fun z => hk (.inl z)) (.inl hw)) fun z => hk (.inr z)
    · exact hw
theorem DInv.size {f : List (Str × Int)} {L : List Str} (h : DInv b s f L) : f.length ≤ b.lines.length := by
  have := nodup_len h.nd h.sub
  rw [names_len, keys_len] at this
  exact this
theorem distL_end : ∀ (m : Nat) (f : List (Str × Int)) (i : Int) (L : List Str), DInv b s f L → b.lines.length + 1 ≤ f.length + m → DInv b s (distL b s m f i L) []
  | 0, f, i, L, h, hm => by
    have := h.size ok
    omega
  | m + 1, f, i, L, h, hm => by
    unfold distL
    cases z : L.isEmpty with
    | true =>
      rw [List.isEmpty_iff.mp z] at h
      exact h
    | false =>
      rw [if_neg Bool.false_ne_true]
      refine distL_end m _ _ _ (h.next ok i) ?_
      have hne : L ≠ [] := fun e => by rw [e] at z; cases z
      have := List.length_pos_iff.mpr hne
      rw [List.length_append, List.length_map]
      omega
theorem dist_end : DInv b s (distancesOf b s) [] := distL_end ok 1000 _ _ _ (DInv.start ok) (by have := ok.len; simp; omega)
/-- who has no distance -/
theorem dist_none {n : Str} (hn : n ∈ b.names) (h : n ∉ keys (distancesOf b s)) : wonAt b s n = false ∧ leadsOn b s (keys (distancesOf b s)) n = false := by
  have key := (dist_end ok (s := s)).full n hn h
  refine ⟨?_, ?_⟩
  · cases q : wonAt b s n with
    | false => rfl
    | true => exact absurd (key (.inl q)) (by simp)
  · cases q : leadsOn b s (keys (distancesOf b s)) n with
    | false => rfl
    | true => exact absurd (key (.inr q)) (by simp)
end
/-! ### lists that are written -/
@[simp] theorem ev_mth (k : MK) (fo : DE) (a : DA) (e : DEnv) (s : Sto) : dMth k fo a e s = (fo e s).bind fun v => bnd (isTg isL v) fun _ => bnd (a e) fun vs => k v vs := rfl
theorem ev_isL {k : Nat} {s : Sto} {l : List D} (h : s[k]? = some (some (.lst l))) : isTg isL (.cell k) s = .ok () s := by
  show bnd _ _ _ = _
  rw [ev_bnd]
  have : tagV (.cell k) s = .ok .lst s := by unfold tagV; simp only [h]
  rw [this]
  rfl
theorem ev_celL {k : Nat} {s : Sto} {l : List D} (f : List D → M Val) (h : s[k]? = some (some (.lst l))) : celL k f s = f l s := by unfold celL; simp only [h]
theorem ev_append {k : Nat} {s : Sto} {l : List D} (x : D) (h : s[k]? = some (some (.lst l))) (hl : l.length < 1000000) : mAppend (.cell k) [.d x] s = .ok (.d .non) (s.set k (some (.lst (l ++ [x])))) := by
  show bnd (plain (.d x)) (fun x => celL k fun l => cap l.length (wr k (.lst (l ++ [x])) (.d .non))) s = _
  rw [ev_bnd, ev_plain, bind_ok, ev_celL _ h, ev_cap _ _ _ hl]
  rfl
def extX (k : Nat) : D → M Val
  | .lst m => celL k fun l => cap (l.length + m.length) (wr k (.lst (l ++ m)) (.d .non))
  | _ => stk
theorem ev_extend {k : Nat} {s : Sto} {l m : List D} (h : s[k]? = some (some (.lst l))) (hl : l.length + m.length < 1000000) : mExtend (.cell k) [.d (.lst m)] s = .ok (.d .non) (s.set k (some (.lst (l ++ m)))) := by
  show bnd (snap (.d (.lst m))) (extX k) s = _
  rw [ev_bnd, ev_snap, bind_ok]
  show celL k _ s = _
  rw [ev_celL _ h, ev_cap _ _ _ hl]
  rfl
theorem ev_pop {k : Nat} {s : Sto} {l : List D} {x : D} (h : s[k]? = some (some (.lst (l ++ [x])))) : mPop (.cell k) [] s = .ok (.d x) (s.set k (some (.lst l))) := by
  show celL k _ s = _
  rw [ev_celL _ h, ev_bnd]
  have : (l ++ [x])[(l ++ [x]).length - 1]? = some x := by simp
  rw [this]
  show Rs.ok _ _ = _
  rw [List.dropLast_concat]
@[simp] theorem ev_sPut (fd fk fv : DE) (e : DEnv) (s : Sto) : sPut fd fk fv e s = (bnd (fv e) (fun v => bnd (fd e) fun d => bnd (fk e) fun k => putI d k v) s).bindE e fun _ s => .nx e s := rfl
theorem ev_putI {k : Nat} {s : Sto} {t : Bool} {l : List (D × D)} (x y : D) (h : s[k]? = some (some (.dic t l))) (hk : isKey t x = true) (hl : l.length < 1000000) : putI (.cell k) (.d x) (.d y) s = .ok (.d .non) (s.set k (some (.dic t (put x y l)))) := by
  show bnd (putC k x y) _ s = _
  rw [ev_bnd]
  have : putC k x y s = .ok () (s.set k (some (.dic t (put x y l)))) := by
    unfold putC
    simp only [h]
    rw [if_pos ⟨hk, hl⟩]
  rw [this]
  rfl
/-! two cells at the end -/
theorem two_get0 (st : Sto) (a b : Option Cel) : (st ++ [a, b])[st.length]? = some a := by simp
theorem two_get1 (st : Sto) (a b : Option Cel) : (st ++ [a, b])[st.length + 1]? = some b := by simp
theorem two_set0 (st : Sto) (a b c : Option Cel) : (st ++ [a, b]).set st.length c = st ++ [c, b] := by
  rw [List.set_append_right _ _ (Nat.le_refl _), Nat.sub_self]
  rfl
theorem two_set1 (st : Sto) (a b c : Option Cel) : (st ++ [a, b]).set (st.length + 1) c = st ++ [a, c] := by
  rw [List.set_append_right _ _ (by omega), show st.length + 1 - st.length = 1 by omega]
  rfl
theorem Wf.dl {st : Sto} (h : Wf st) (t : Bool) (l : List (D × D)) (m : List D) : Wf (st ++ [some (.dic t l), some (.lst m)]) := by
  have := (h.dic t l).lst m
  simpa using this
/-! ### the trap that is found -/
def awayW (b : Bd) (s : List Mv) (won : List Str) (n : Str) : List Str := (ways b n s).filter fun o => !decide (o ∈ won)
def trapL (b : Bd) (s : List Mv) (won : List Str) : Nat → Tr → List Str → Tr
  | 0, f, _ => f
  | m + 1, f, w => match w.getLast? with
    | none => f
    | some n => if n ∈ tkeys f then trapL b s won m f w.dropLast
      else if (b.fl n).side = 1 then trapL b s won m (f ++ [(n, none)]) (w.dropLast ++ awayW b s won n)
      else trapL b s won m (f ++ [(n, (awayW b s won n).head?)]) (w.dropLast ++ (awayW b s won n).take 1)
def trapOf (b : Bd) (s : List Mv) : Tr := trapL b s (keys (distancesOf b s)) 1000 [] [b.start]
theorem cut_one {α : Type} (l : List α) : cut l none (some 1) = l.take 1 := by
  unfold cut
  have h1 : HT.sIx l.length 0 none = 0 := rfl
  have h2 : HT.sIx l.length l.length (some 1) = min 1 l.length := HT.sIx_nat _ _ 1
  rw [h1, h2, List.drop_zero, Nat.sub_zero]
  cases l with
  | nil => rfl
  | cons a r =>
    rw [List.length_cons]
    have : min 1 (r.length + 1) = 1 := by omega
    rw [this]
theorem atD_zero (x : D) (l : List D) : atD (x :: l) 0 = some x := by
  unfold atD L2.atI L2.ixN
  rw [if_pos (by decide), if_pos (by rw [List.length_cons]; omega)]
  rfl
theorem tkeys_app (f : Tr) (n : Str) (o : Option Str) : tkeys (f ++ [(n, o)]) = tkeys f ++ [n] := by unfold tkeys; rw [List.map_append]; rfl
/-- a field of the second player without a distance has a way without one -/
theorem away_ne {b : Bd} (ok : OkB b) {s : List Mv} {n : Str} (hn : n ∈ b.names) (h : n ∉ keys (distancesOf b s)) (h1 : ¬ (b.fl n).side = 1) : ∃ o r, awayW b s (keys (distancesOf b s)) n = o :: r := by
  have h2 := (dist_none ok hn h).2
  unfold leadsOn at h2
  rw [if_neg h1] at h2
  cases q : awayW b s (keys (distancesOf b s)) n with
  | cons o r => exact ⟨o, r, rfl⟩
  | nil =>
    exfalso
    have : ((ways b n s).all fun o => decide (o ∈ keys (distancesOf b s))) = true := by
      rw [List.all_eq_true]
      intro o ho
      apply decide_eq_true
      apply Classical.byContradiction
      intro z
      have : o ∈ awayW b s (keys (distancesOf b s)) n := List.mem_filter.mpr ⟨ho, by simpa using z⟩
      rw [q] at this
      cases this
    rw [this] at h2
    cases h2
theorem away_in {b : Bd} (ok : OkB b) {s : List Mv} {n o : Str} (hn : n ∈ b.names) {won : List Str} (h : o ∈ awayW b s won n) : o ∈ b.names ∧ o ∉ won := by
  obtain ⟨h1, h2⟩ := List.mem_filter.mp h
  exact ⟨ok.closed n hn o (ways_sub h1), by simpa using h2⟩
theorem away_len {b : Bd} (ok : OkB b) {s : List Mv} {n : Str} (hn : n ∈ b.names) (won : List Str) : (awayW b s won n).length ≤ 8 := Nat.le_trans (List.length_filter_le _ _) (ways_len ok hn s)
def eTl (t : Tr) : List (D × D) := t.map fun p => (eN p.1, eOs p.2)
structure TInv (b : Bd) (s : List Mv) (f : Tr) (w : List Str) : Prop where
  nd : (tkeys f).Nodup
  sub : ∀ n ∈ tkeys f, n ∈ b.names
  w : ∀ n ∈ w, n ∈ b.names ∧ n ∉ keys (distancesOf b s)
section
variable {b : Bd} (ok : OkB b) {s : List Mv} (hs : SOk s) {st : Sto} (hw : Wf st)
include ok hs hw
theorem while_trap : ∀ (m : Nat) (f : Tr) (w : List Str) (x5 x6 x7 : Option Val), TInv b s f w → 9 * (8 - f.length) + w.length < m → m ≤ 1000 →
    ∃ w' y5 y6 y7, whileD T_trap_of_0 L_trap_of_1 m [some (.d (eB b)), some (.d (eS s)), some (.d (eDi (distancesOf b s))), some (.cell st.length), some (.cell (st.length + 1)), x5, x6, x7] (st ++ [some (.dic false (eTl f)), some (.lst (w.map eN))]) =
      .nx [some (.d (eB b)), some (.d (eS s)), some (.d (eDi (distancesOf b s))), some (.cell st.length), some (.cell (st.length + 1)), y5, y6, y7] (st ++ [some (.dic false (eTl (trapL b s (keys (distancesOf b s)) m f w))), w']) := by
  intro m
  induction m with
  | zero => intro f w x5 x6 x7 _ h; omega
  | succ m ih =>
    intro f w x5 x6 x7 inv hm hm2
    have wd := Wf.dl hw false (eTl f) (w.map eN)
    have hN : ∀ x ∈ w, Nm x := fun x hx => ok.nm x (inv.w x hx).1
    have hfl : f.length ≤ 8 := by
      have := nodup_len inv.nd inv.sub
      rw [names_len] at this
      unfold tkeys at this
      rw [List.length_map] at this
      have := ok.len
      omega
    have ht : T_trap_of_0 [some (.d (eB b)), some (.d (eS s)), some (.d (eDi (distancesOf b s))), some (.cell st.length), some (.cell (st.length + 1)), x5, x6, x7] (st ++ [some (.dic false (eTl f)), some (.lst (w.map eN))]) = .ok (!w.isEmpty) (st ++ [some (.dic false (eTl f)), some (.lst (w.map eN))]) := by
      have hsn : snap (.cell (st.length + 1)) (st ++ [some (.dic false (eTl f)), some (.lst (w.map eN))]) = .ok (.lst (w.map eN)) (st ++ [some (.dic false (eTl f)), some (.lst (w.map eN))]) := by
        unfold snap
        simp only [two_get1]
      simp [T_trap_of_0, hsn, okQ_names0 hN, eqD_lst0]
    unfold trapL
    cases z : w.getLast? with
    | none =>
      have hw0 : w = [] := List.getLast?_eq_none_iff.mp z
      subst hw0
      rw [ev_whileF (by rw [ht]; rfl)]
      exact ⟨_, _, _, _, rfl⟩
    | some n =>
      obtain ⟨w0, rfl⟩ : ∃ w0, w = w0 ++ [n] := by
        refine ⟨w.dropLast, ?_⟩
        have hne : w ≠ [] := fun e => by rw [e] at z; cases z
        have h1 := List.dropLast_concat_getLast hne
        rw [List.getLast?_eq_some_getLast hne] at z
        rw [← Option.some.inj z]
        exact h1.symm
      rw [List.dropLast_concat]
      rw [List.length_append] at hm
      have hlen1 : ([n] : List Str).length = 1 := rfl
      obtain ⟨hn1, hn2⟩ := inv.w n (by simp)
      have he : (w0 ++ [n]).isEmpty = false := by simp
      rw [he] at ht
      have e1 : mPop (.cell (st.length + 1)) [] (st ++ [some (.dic false (eTl f)), some (.lst ((w0 ++ [n]).map eN))]) = .ok (.d (eN n)) (st ++ [some (.dic false (eTl f)), some (.lst (w0.map eN))]) := by
        rw [ev_pop (l := w0.map eN) (x := eN n) (by rw [two_get1, List.map_append]; rfl), two_set1]
      have e2 : isTg isL (.cell (st.length + 1)) (st ++ [some (.dic false (eTl f)), some (.lst ((w0 ++ [n]).map eN))]) = .ok () (st ++ [some (.dic false (eTl f)), some (.lst ((w0 ++ [n]).map eN))]) := ev_isL (two_get1 _ _ _)
      have wd1 := Wf.dl hw false (eTl f) (w0.map eN)
      have hs3 : snap (.cell st.length) (st ++ [some (.dic false (eTl f)), some (.lst (w0.map eN))]) = .ok (eTr f) (st ++ [some (.dic false (eTl f)), some (.lst (w0.map eN))]) := by
        unfold snap
        simp only [two_get0]
        rfl
      by_cases hf : n ∈ tkeys f
      · have hb : L_trap_of_1 [some (.d (eB b)), some (.d (eS s)), some (.d (eDi (distancesOf b s))), some (.cell st.length), some (.cell (st.length + 1)), x5, x6, x7] (st ++ [some (.dic false (eTl f)), some (.lst ((w0 ++ [n]).map eN))]) =
            .nx [some (.d (eB b)), some (.d (eS s)), some (.d (eDi (distancesOf b s))), some (.cell st.length), some (.cell (st.length + 1)), some (.d (eN n)), x6, x7] (st ++ [some (.dic false (eTl f)), some (.lst (w0.map eN))]) := by
          unfold L_trap_of_1
          simp only [ev_sSeq, ev_sSet, ev_mth, ev_var, List.getElem?_cons_succ, List.getElem?_cons_zero, optV_some, bind_ok, ev_bnd, e2, ev_nil, e1, bindE_ok, List.set_cons_succ, List.set_cons_zero, seq_nx, ev_sIf, ev_cmp, ev_opB, ev_snap, hs3, ev_nin, in_eTr, ev_ret]
          simp [hf]
        rw [ev_whileT ht hb]
        dsimp only
        rw [if_pos hf]
        exact ih f w0 _ _ _ ⟨inv.nd, inv.sub, fun x hx => inv.w x (by simp [hx])⟩ (by omega) (by omega)
      · have e3 : dLc (iSeq (dCallG G_ways (dCons (dVar 0) (dCons (dVar 5) (dCons (dVar 1) dNil))))) (tgN 7) (tCmp .nin (dVar 7) (dVar 2)) (dVar 7) [7] false [some (.d (eB b)), some (.d (eS s)), some (.d (eDi (distancesOf b s))), some (.cell st.length), some (.cell (st.length + 1)), some (.d (eN n)), x6, x7] (st ++ [some (.dic false (eTl f)), some (.lst (w0.map eN))]) =
            .ok (.d (.lst ((awayW b s (keys (distancesOf b s)) n).map eN))) (st ++ [some (.dic false (eTl f)), some (.lst (w0.map eN))]) := by
          rw [ev_dLc (enc := eN) (E := fun o => [some (.d (eB b)), some (.d (eS s)), some (.d (eDi (distancesOf b s))), some (.cell st.length), some (.cell (st.length + 1)), some (.d (eN n)), x6, some (.d (eN o))]) (p := fun o => !decide (o ∈ keys (distancesOf b s))) (ways b n s) eN ?h1 wd1 ?h0 ?h2 ?h3 ?h4]
          case h1 => simp [G_ways_ok ok hn1 hs wd1]
          case h0 => have := ways_len ok hn1 s; omega
          case h2 => intro a ha; simp
          case h3 => intro a ha s' w; simp [in_keys]
          case h4 => intro a ha _ s' w; simp
          rfl
        have hal := away_len ok hn1 (s := s) (keys (distancesOf b s))
        -- the rest, by the side
        have hput : ∀ (o : Option Str), putI (.cell st.length) (.d (eN n)) (.d (eOs o)) (st ++ [some (.dic false (eTl f)), some (.lst (w0.map eN))]) = .ok (.d .non) (st ++ [some (.dic false (eTl (f ++ [(n, o)]))), some (.lst (w0.map eN))]) := fun o => by
          rw [ev_putI _ _ (two_get0 _ _ _) (isKey_eN n) (by unfold eTl; rw [List.length_map]; omega), two_set0]
          have := putNm eOs f n o
          unfold eTl
          rw [this, dPut_new hf]
        have nd' : ∀ o, (tkeys (f ++ [(n, o)])).Nodup := fun o => by
          rw [tkeys_app, List.nodup_append]
          exact ⟨inv.nd, by simp, fun a ha c hc z => hf (by rw [List.mem_singleton] at hc; rw [← hc, ← z]; exact ha)⟩
        have sub' : ∀ o, ∀ x ∈ tkeys (f ++ [(n, o)]), x ∈ b.names := fun o x hx => by
          rw [tkeys_app, List.mem_append, List.mem_singleton] at hx
          exact hx.elim (inv.sub x) fun e => by rw [e]; exact hn1
        have hfl2 : f.length + 1 ≤ 8 := by
          have := nodup_len (nd' none) (sub' none)
          rw [names_len] at this
          unfold tkeys at this
          rw [List.length_map, List.length_append] at this
          have h1 : ([(n, (none : Option Str))]).length = 1 := rfl
          have := ok.len
          omega
        have hfin : ∀ (o : Option Str) (ex : List Str), (∀ x ∈ ex, x ∈ awayW b s (keys (distancesOf b s)) n) → ex.length ≤ 8 →
            mExtend (.cell (st.length + 1)) [.d (.lst (ex.map eN))] (st ++ [some (.dic false (eTl (f ++ [(n, o)]))), some (.lst (w0.map eN))]) = .ok (.d .non) (st ++ [some (.dic false (eTl (f ++ [(n, o)]))), some (.lst ((w0 ++ ex).map eN))]) ∧
            ∃ w' y5 y6 y7, whileD T_trap_of_0 L_trap_of_1 m [some (.d (eB b)), some (.d (eS s)), some (.d (eDi (distancesOf b s))), some (.cell st.length), some (.cell (st.length + 1)), some (.d (eN n)), some (.d (.lst ((awayW b s (keys (distancesOf b s)) n).map eN))), x7] (st ++ [some (.dic false (eTl (f ++ [(n, o)]))), some (.lst ((w0 ++ ex).map eN))]) =
              .nx [some (.d (eB b)), some (.d (eS s)), some (.d (eDi (distancesOf b s))), some (.cell st.length), some (.cell (st.length + 1)), y5, y6, y7] (st ++ [some (.dic false (eTl (trapL b s (keys (distancesOf b s)) m (f ++ [(n, o)]) (w0 ++ ex)))), w']) := fun o ex hex hel => by
          refine ⟨?_, ih _ _ _ _ _ ⟨nd' o, sub' o, fun x hx => ?_⟩ ?_ ?_⟩
          · rw [ev_extend (l := w0.map eN) (two_get1 _ _ _) (by rw [List.length_map, List.length_map]; omega), two_set1, List.map_append]
          · rcases List.mem_append.mp hx with h | h
            · exact inv.w x (by simp [h])
            · exact away_in ok hn1 (hex x h)
          · rw [List.length_append, List.length_append]
            have h1 : ([(n, o)]).length = 1 := rfl
            omega
          · omega
        by_cases h1 : (b.fl n).side = 1
        · obtain ⟨g1, w', y5, y6, y7, g2⟩ := hfin none (awayW b s (keys (distancesOf b s)) n) (fun x hx => hx) hal
          have hb : L_trap_of_1 [some (.d (eB b)), some (.d (eS s)), some (.d (eDi (distancesOf b s))), some (.cell st.length), some (.cell (st.length + 1)), x5, x6, x7] (st ++ [some (.dic false (eTl f)), some (.lst ((w0 ++ [n]).map eN))]) =
              .nx [some (.d (eB b)), some (.d (eS s)), some (.d (eDi (distancesOf b s))), some (.cell st.length), some (.cell (st.length + 1)), some (.d (eN n)), some (.d (.lst ((awayW b s (keys (distancesOf b s)) n).map eN))), x7] (st ++ [some (.dic false (eTl (f ++ [(n, none)]))), some (.lst ((w0 ++ awayW b s (keys (distancesOf b s)) n).map eN))]) := by
            unfold L_trap_of_1
            simp only [ev_sSeq, ev_sSet, ev_mth, ev_var, List.getElem?_cons_succ, List.getElem?_cons_zero, optV_some, bind_ok, ev_bnd, e2, ev_nil, e1, bindE_ok, List.set_cons_succ, List.set_cons_zero, seq_nx, ev_sIf, ev_cmp, ev_opB, ev_snap, hs3, ev_nin, in_eTr, ev_ret, hf, decide_false, Bool.not_false, if_true, e3, ev_sPut, ev_if, ev_fld, ev_ix, ev_opD, eB_lines, ix_lines hn1, eF_side, ev_con, h1, ite_app, ev_sExpr, ev_cons]
            rw [ev_eq _ _ _ (okQ_int _ _), eqD_int]
            have hp := hput none
            simp only [decide_true, bind_ok, if_true, ev_con, ev_var, List.getElem?_cons_succ, List.getElem?_cons_zero, optV_some, ev_bnd, ite_app, show eOs none = D.non from rfl] at hp ⊢
            simp only [hp, bindE_ok, seq_nx, ev_sExpr, ev_mth, ev_var, List.getElem?_cons_succ, List.getElem?_cons_zero, optV_some, bind_ok, ev_bnd, ev_isL (two_get1 _ _ _), ev_cons, ev_if, ev_cmp, ev_fld, ev_ix, ev_opD, eB_lines, ev_snap, ix_lines hn1, eF_side, ev_con, ev_ret, ev_opB, h1]
            rw [ev_eq _ _ _ (okQ_int _ _), eqD_int]
            simp only [decide_true, bind_ok, if_true, ev_var, List.getElem?_cons_succ, List.getElem?_cons_zero, optV_some, ite_app, ev_nil, ev_bnd, ev_ret, g1, bindE_ok]
          rw [ev_whileT ht hb]
          dsimp only
          rw [if_neg hf, if_pos h1]
          exact ⟨w', y5, y6, y7, g2⟩
        · obtain ⟨o, r, ho⟩ := away_ne ok hn1 hn2 h1
          obtain ⟨g1, w', y5, y6, y7, g2⟩ := hfin (some o) [o] (fun x hx => by rw [ho]; rw [List.mem_singleton] at hx; simp [hx]) (by simp)
          rw [ho] at e3 g2
          have hb : L_trap_of_1 [some (.d (eB b)), some (.d (eS s)), some (.d (eDi (distancesOf b s))), some (.cell st.length), some (.cell (st.length + 1)), x5, x6, x7] (st ++ [some (.dic false (eTl f)), some (.lst ((w0 ++ [n]).map eN))]) =
              .nx [some (.d (eB b)), some (.d (eS s)), some (.d (eDi (distancesOf b s))), some (.cell st.length), some (.cell (st.length + 1)), some (.d (eN n)), some (.d (.lst ((o :: r).map eN))), x7] (st ++ [some (.dic false (eTl (f ++ [(n, some o)]))), some (.lst ((w0 ++ [o]).map eN))]) := by
            unfold L_trap_of_1
            simp only [ev_sSeq, ev_sSet, ev_mth, ev_var, List.getElem?_cons_succ, List.getElem?_cons_zero, optV_some, bind_ok, ev_bnd, e2, ev_nil, e1, bindE_ok, List.set_cons_succ, List.set_cons_zero, seq_nx, ev_sIf, ev_cmp, ev_opB, ev_snap, hs3, ev_nin, in_eTr, ev_ret, hf, decide_false, Bool.not_false, if_true, e3, ev_sPut, ev_if, ev_fld, ev_ix, ev_opD, eB_lines, ix_lines hn1, eF_side, ev_con, ite_app, ev_sExpr, ev_cons]
            rw [ev_eq _ _ _ (okQ_int _ _), eqD_int]
            have hp := hput (some o)
            have hix : ixD (.lst ((o :: r).map eN)) (.int 0) (st ++ [some (.dic false (eTl f)), some (.lst (w0.map eN))]) = .ok (eN o) (st ++ [some (.dic false (eTl f)), some (.lst (w0.map eN))]) := by
              rw [ev_ixL, List.map_cons, atD_zero]
              rfl
            simp only [h1, decide_false, bind_ok, Bool.false_eq_true, if_false, ev_con, ev_var, List.getElem?_cons_succ, List.getElem?_cons_zero, optV_some, ev_bnd, ite_app, ev_ix, ev_opD, ev_snap, ev_ret, show eOs (some o) = eN o from rfl] at hp ⊢
            rw [hix]
            simp only [hp, bind_ok, ev_ret, ev_bnd, ev_var, List.getElem?_cons_succ, List.getElem?_cons_zero, optV_some, bindE_ok, seq_nx, ev_sExpr, ev_mth, ev_var, List.getElem?_cons_succ, List.getElem?_cons_zero, optV_some, bind_ok, ev_bnd, ev_isL (two_get1 _ _ _), ev_cons, ev_if, ev_cmp, ev_fld, ev_ix, ev_opD, eB_lines, ev_snap, ix_lines hn1, eF_side, ev_con, ev_ret, ev_opB]
            rw [ev_eq _ _ _ (okQ_int _ _), eqD_int]
            have hc : cut ((o :: r).map eN) none (some 1) = [o].map eN := by rw [cut_one]; rfl
            simp only [h1, decide_false, bind_ok, Bool.false_eq_true, if_false, ev_sl2, ev_var, List.getElem?_cons_succ, List.getElem?_cons_zero, optV_some, ite_app, ev_nil, ev_bnd, ev_oNone, ev_oSome, ev_con, ev_plain, ev_oInt, ev_snap, ev_slL, hc, ev_ret, g1, bindE_ok]
          rw [ev_whileT ht hb]
          dsimp only
          rw [if_neg hf, if_neg h1, ho]
          exact ⟨w', y5, y6, y7, g2⟩
theorem G_trap_of_ok (hn : b.start ∉ keys (distancesOf b s)) : G_trap_of [.d (eB b), .d (eS s)] [] st = .ok (.d (eTr (trapOf b s))) st := by
  simp only [G_trap_of, ev_def2, dS_trap_of]
  obtain ⟨w', y5, y6, y7, h⟩ := while_trap ok hs hw 1000 [] [b.start] none none none ⟨by simp [tkeys], by simp [tkeys], fun n h => by
    rw [List.mem_singleton] at h
    rw [h]
    exact ⟨ok.start, hn⟩⟩ (by simp) (by simp)
  simp only [Nat.reduceSub, List.reduceReplicate, ev_sSeq, ev_sSet, ev_call, ev_cons, ev_var, List.getElem?_cons_succ, List.getElem?_cons_zero, optV_some, bind_ok, ev_bnd, ev_nil, ev_ret, G_dist_ok ok hs hw, bindE_ok, List.set_cons_succ, List.set_cons_zero, seq_nx, ev_sPar, ev_dic0, ev_lstL, ev_fld, eB_begin, ev_plains_cons, ev_plains_nil, List.length_cons, List.length_nil]
  rw [ev_cap _ _ _ (by decide)]
  simp only [ev_bnd, ev_nil, Nat.reduceAdd, ev_newCell, List.length_append, List.length_cons, List.length_nil, bind_ok, bindE_ok, if_true, List.zip_cons_cons, List.zip_nil_left, ev_setAll_cons, ev_setAll_nil, List.set_cons_succ, List.set_cons_zero, seq_nx, List.append_assoc, List.cons_append, List.nil_append, Nat.zero_add, ev_sSeq, ev_ret]
  have h' := h
  simp only [List.map_cons, List.map_nil, show eTl [] = [] from rfl] at h'
  rw [h']
  simp only [seq_nx, ev_sSeq, ev_sFrz, List.getElem?_cons_succ, List.getElem?_cons_zero, ev_frzC]
  rw [frzV_dic _ _ _ _ _ _ (two_get0 _ _ _)]
  simp [trunc_app hw]
  rfl
end
end Pg
/-! FpI -/
/-! FpI: all sets, costs. -/
namespace Pg
open PySem Fb
/-! ### cells in the middle -/
theorem mid_get (st : Sto) (c : Option Cel) (r : Sto) : (st ++ c :: r)[st.length]? = some c := by simp
theorem mid_set (st : Sto) (c d : Option Cel) (r : Sto) : (st ++ c :: r).set st.length d = st ++ d :: r := by
  rw [List.set_append_right _ _ (Nat.le_refl _), Nat.sub_self]
  rfl
def plainC : Option Cel → Bool
  | some (.ins _ _) => false
  | _ => true
theorem Wf.plain {st : Sto} (h : Wf st) {r : Sto} (hr : r.all plainC = true) : Wf (st ++ r) := by
  unfold Wf at h ⊢
  rw [List.all_append, Bool.and_eq_true, List.all_eq_true, List.all_eq_true]
  refine ⟨fun c hc => celOk_mono (by simp) (List.all_eq_true.mp h c hc), fun c hc => ?_⟩
  have := List.all_eq_true.mp hr c hc
  cases c with
  | none => rfl
  | some c => cases c <;> first | rfl | cases this
/-! ### index, star -/
theorem idxD_moves (x : Mv) : ∀ l : List Mv, x ∈ l → idxD (eM x) (l.map eM) = some (l.idxOf x)
  | [], h => by cases h
  | y :: r, h => by
    rw [List.map_cons]
    show (if eqD (eM y) (eM x) = true then some 0 else (idxD (eM x) (r.map eM)).map (· + 1)) = _
    rw [eqD_eM, List.idxOf_cons]
    by_cases z : y = x
    · subst z; simp
    · have h2 : (y == x) = false := by simp [z]
      rw [h2]
      have hx : x ∈ r := (List.mem_cons.mp h).resolve_left fun e => z e.symm
      rw [idxD_moves x r hx]
      simp [z]
theorem ev_index {l : List Mv} {x : Mv} (hx : x ∈ l) (hl : SOk l) (s : Sto) : mIndex (.d (.lst (l.map eM))) [.d (eM x)] s = .ok (.d (.int (l.idxOf x : Nat))) s := by
  show indexD (.lst (l.map eM)) (eM x) s = _
  show (if isData 8 (eM x) = true ∧ (l.map eM).all (isData 7) = true then _ else stk : M Val) s = _
  rw [if_pos ⟨isData_eM (n := 6) (hl x hx), all_moves (n := 5) hl⟩, idxD_moves x l hx]
  rfl
theorem atD_last (l : List D) (x : D) : atD (l ++ [x]) (-1) = some x := by
  unfold atD L2.atI L2.ixN
  rw [if_neg (by decide), if_pos (by rw [List.length_append, List.length_singleton]; omega)]
  show (l ++ [x])[(-1 + (((l ++ [x]).length : Nat) : Int)).toNat]? = some x
  have : (-1 + (((l ++ [x]).length : Nat) : Int)).toNat = l.length := by rw [List.length_append, List.length_singleton]; omega
  rw [this]
  simp
def starX (r : M (List Val)) : D → M (List Val) := fun x => bnd (seqOf x) fun l => bnd r fun t => ret (l.map .d ++ t)
@[simp] theorem ev_star (a : DE) (r : DA) (e : DEnv) (s : Sto) : dStar a r e s = (a e s).bind fun v => bnd (snap v) (starX (r e)) := rfl
@[simp] theorem ev_starT (r : M (List Val)) (l : List D) (s : Sto) : starX r (.tup l) s = (r s).bind fun t => ret (l.map .d ++ t) := rfl
@[simp] theorem ev_starL (r : M (List Val)) (l : List D) (s : Sto) : starX r (.lst l) s = (r s).bind fun t => ret (l.map .d ++ t) := rfl
theorem eqD_tup0 {α : Type} (f : α → D) (l : List α) : eqD (.tup (l.map f)) (.tup []) = l.isEmpty := by
  show eqL _ _ = _
  rw [eqL_nil]
theorem eS_app (s : List Mv) (m : Mv) : (s.map eM).map Val.d ++ [Val.d (eM m)] = ((s ++ [m]).map eM).map Val.d := by simp
/-! ### all sets -/
def nxt (mv : List Mv) (s : List Mv) : List (List Mv) := (mv.drop (match s.getLast? with | some m => mv.idxOf m + 1 | none => 0)).map fun m => s ++ [m]
def setsL (mv : List Mv) : Nat → List (List Mv) → List (List Mv) → List (List Mv)
  | 0, f, _ => f
  | m + 1, f, l => if l.isEmpty then f else setsL mv m (f ++ l.flatMap (nxt mv)) (l.flatMap (nxt mv))
def allSets (b : Bd) : List (List Mv) := setsL b.moves 1000 [[]] [[]]
/-- layer k: k moves each, in the order of the moves -/
structure SInv (mv : List Mv) (k : Nat) (f l : List (List Mv)) : Prop where
  hf : ∀ s ∈ f, (∀ m ∈ s, m ∈ mv) ∧ s.length ≤ 6
  hl : ∀ s ∈ l, (∀ m ∈ s, m ∈ mv) ∧ s.length = k ∧ (k = 0 ∨ ∃ m, s.getLast? = some m ∧ k ≤ mv.idxOf m + 1)
  ll : l.length ≤ 6 ^ k
  fl : f.length ≤ 2 * 6 ^ k
section
variable {mv : List Mv} (nd : mv.Nodup) (hm : mv.length ≤ 6)
include nd hm
theorem nxt_spec {s : List Mv} {k : Nat} (h1 : ∀ m ∈ s, m ∈ mv) (h2 : s.length = k) (h3 : k = 0 ∨ ∃ m, s.getLast? = some m ∧ k ≤ mv.idxOf m + 1) :
    ∀ t ∈ nxt mv s, (∀ m ∈ t, m ∈ mv) ∧ t.length = k + 1 ∧ ∃ m, t.getLast? = some m ∧ k + 1 ≤ mv.idxOf m + 1 := by
  intro t ht
  obtain ⟨m, hm1, rfl⟩ := List.mem_map.mp ht
  have hmem : m ∈ mv := List.mem_of_mem_drop hm1
  refine ⟨fun x hx => ?_, by rw [List.length_append, h2]; rfl, m, by simp, ?_⟩
  · rcases List.mem_append.mp hx with h | h
    · exact h1 x h
    · rw [List.mem_singleton] at h; rw [h]; exact hmem
  · -- m stands at begin or behind
    have key : ∀ n : Nat, m ∈ mv.drop n → n ≤ mv.idxOf m := by
      intro n hn
      apply Classical.byContradiction
      intro z
      have hlt : mv.idxOf m < n := by omega
      have hin : m ∈ mv.take n := by
        rw [List.mem_take_iff_getElem]
        have hl := List.idxOf_lt_length_of_mem hmem
        exact ⟨mv.idxOf m, by omega, by rw [List.getElem_idxOf]⟩
      have := nd
      rw [← List.take_append_drop n mv, List.nodup_append] at this
      exact this.2.2 m hin m hn rfl
    have := key _ hm1
    rcases h3 with h3 | ⟨m', e, h3⟩
    · omega
    · rw [e] at this
      have this : mv.idxOf m' + 1 ≤ mv.idxOf m := this
      omega
theorem nxt_len (s : List Mv) : (nxt mv s).length ≤ 6 := by
  unfold nxt
  rw [List.length_map, List.length_drop]
  omega
theorem flat_len : ∀ l : List (List Mv), (l.flatMap (nxt mv)).length ≤ 6 * l.length
  | [] => by simp
  | s :: r => by
    rw [List.flatMap_cons, List.length_append, List.length_cons]
    have := nxt_len nd hm s
    have := flat_len r
    omega
theorem SInv.small {k : Nat} {f l : List (List Mv)} (h : SInv mv k f l) (hne : l ≠ []) : k ≤ 6 := by
  obtain ⟨s, hs⟩ := List.exists_mem_of_ne_nil l hne
  obtain ⟨h1, h2, h3⟩ := h.hl s hs
  rcases h3 with h3 | ⟨m, e, h3⟩
  · omega
  · have hmem : m ∈ mv := h1 m (List.mem_of_getLast? e)
    have := List.idxOf_lt_length_of_mem hmem
    omega
theorem SInv.next {k : Nat} {f l : List (List Mv)} (h : SInv mv k f l) : SInv mv (k + 1) (f ++ l.flatMap (nxt mv)) (l.flatMap (nxt mv)) := by
  have hl : ∀ s ∈ l.flatMap (nxt mv), (∀ m ∈ s, m ∈ mv) ∧ s.length = k + 1 ∧ ∃ m, s.getLast? = some m ∧ k + 1 ≤ mv.idxOf m + 1 := fun s hs => by
    obtain ⟨t, ht, hst⟩ := List.mem_flatMap.mp hs
    obtain ⟨h1, h2, h3⟩ := h.hl t ht
    exact nxt_spec nd hm h1 h2 h3 s hst
  have hf := flat_len nd hm l
  refine ⟨fun s hs => ?_, fun s hs => ⟨(hl s hs).1, (hl s hs).2.1, .inr (hl s hs).2.2⟩, ?_, ?_⟩
  · rcases List.mem_append.mp hs with z | z
    · exact h.hf s z
    · refine ⟨(hl s z).1, ?_⟩
      obtain ⟨m, e, h3⟩ := (hl s z).2.2
      have hmem : m ∈ mv := (hl s z).1 m (List.mem_of_getLast? e)
      have := List.idxOf_lt_length_of_mem hmem
      have := (hl s z).2.1
      omega
  · have := h.ll
    rw [Nat.pow_succ]
    omega
  · have := h.ll
    have := h.fl
    rw [List.length_append, Nat.pow_succ]
    omega
theorem SInv.start : SInv mv 0 [[]] [[]] := ⟨fun s hs => by rw [List.mem_singleton] at hs; subst hs; simp, fun s hs => by rw [List.mem_singleton] at hs; subst hs; simp, by simp, by simp⟩
theorem setsL_end : ∀ (n k : Nat) (f l : List (List Mv)), SInv mv k f l → 8 ≤ n + k → ∀ s ∈ setsL mv n f l, (∀ m ∈ s, m ∈ mv) ∧ s.length ≤ 6
  | 0, k, f, l, h, _ => h.hf
  | n + 1, k, f, l, h, hk => by
    unfold setsL
    cases z : l.isEmpty with
    | true => exact h.hf
    | false =>
      rw [if_neg Bool.false_ne_true]
      exact setsL_end n (k + 1) _ _ (h.next nd hm) (by omega)
end
theorem allSets_sub {b : Bd} (ok : OkB b) : ∀ s ∈ allSets b, (∀ m ∈ s, m ∈ b.moves) ∧ s.length ≤ 6 :=
  setsL_end ok.mnd (by have := ok.mlen; unfold Bd.moves; rw [List.length_map]; exact this) 1000 0 _ _ (SInv.start ok.mnd (by have := ok.mlen; unfold Bd.moves; rw [List.length_map]; exact this)) (by omega)
theorem OkB.sok {b : Bd} (ok : OkB b) {s : List Mv} (h : ∀ m ∈ s, m ∈ b.moves) : SOk s := fun m hm => ok.mv_ok (h m hm)
theorem OkB.mvl {b : Bd} (ok : OkB b) : b.moves.length ≤ 6 := by have := ok.mlen; unfold Bd.moves; rw [List.length_map]; exact this
theorem cut_from {α : Type} (l : List α) (k : Nat) : cut l (some (k : Int)) none = l.drop k := by
  unfold cut
  have h1 : HT.sIx l.length 0 (some (k : Int)) = min k l.length := HT.sIx_nat _ _ k
  have h2 : HT.sIx l.length l.length none = l.length := rfl
  rw [h1, h2]
  by_cases h : k ≤ l.length
  · rw [show min k l.length = k by omega]
    exact List.take_of_length_le (by rw [List.length_drop]; omega)
  · rw [show min k l.length = l.length by omega, List.drop_of_length_le (Nat.le_refl _), List.drop_of_length_le (by omega)]
    simp
section
variable {b : Bd} (ok : OkB b) {st : Sto} (hw : Wf st)
include ok hw
/-- one set's turn -/
theorem turn_sets {j : Sto} (hj : j.all plainC = true) {x5 x6 x7 : Option Val} {c3 : Val} {s : List Mv} (hs : ∀ m ∈ s, m ∈ b.moves) (hl : s.length ≤ 6) (acc : List D) (ha : acc.length ≤ 300000) :
    ∃ y6, forStep (tgN 5) L_all_sets_0 (eS s) [some (.d (eB b)), some (.d (.lst (b.moves.map eM))), some (.cell st.length), some c3, some (.cell (st ++ j).length), x5, x6, x7] (st ++ j ++ [some (.lst acc)]) =
      .nx [some (.d (eB b)), some (.d (.lst (b.moves.map eM))), some (.cell st.length), some c3, some (.cell (st ++ j).length), some (.d (eS s)), y6, x7] (st ++ j ++ [some (.lst (acc ++ (nxt b.moves s).map eS))]) := by
  have wj : Wf (st ++ j) := Wf.plain hw hj
  have wd := wj.lst acc
  have hs' := ok.sok hs
  have hmv : SOk b.moves := ok.sok fun m h => h
  have hmvl := ok.mvl
  have e0 : okQ (eS s) (.tup []) = true := by
    unfold okQ eS
    rw [isData_tup, all_moves hs']
    rfl
  have e1 : eqD (eS s) (.tup []) = s.isEmpty := eqD_tup0 eM s
  have main : ∀ k : Nat, dLc (iSeq (dSl2 (dVar 1) (oSome (dVar 6)) oNone)) (tgN 7) tYs (dTup (dStar (dVar 5) (dCons (dVar 7) dNil))) [7] false [some (.d (eB b)), some (.d (.lst (b.moves.map eM))), some (.cell st.length), some c3, some (.cell (st ++ j).length), some (.d (eS s)), some (.d (.int (k : Nat))), x7] (st ++ j ++ [some (.lst acc)]) =
      .ok (.d (.lst (((b.moves.drop k).map fun m => s ++ [m]).map eS))) (st ++ j ++ [some (.lst acc)]) := fun k => by
    rw [ev_dLc (enc := eM) (E := fun m => [some (.d (eB b)), some (.d (.lst (b.moves.map eM))), some (.cell st.length), some c3, some (.cell (st ++ j).length), some (.d (eS s)), some (.d (.int (k : Nat))), some (.d (eM m))]) (p := fun _ => true) (b.moves.drop k) (fun m => eS (s ++ [m])) ?h1 wd ?h0 ?h2 ?h3 ?h4]
    case h1 =>
      simp only [ev_iSeq, ev_sl2, ev_var, List.getElem?_cons_succ, List.getElem?_cons_zero, optV_some, bind_ok, ev_bnd, ev_oSome, ev_plain, ev_oInt, ev_oNone, ev_snap, ev_slL, ev_ret, ev_srcL, cut_from, List.map_drop]
    case h0 => rw [List.length_drop]; omega
    case h2 => intro a ha; simp
    case h3 => intro a ha s' w; simp
    case h4 =>
      intro a ha _ s' w
      have e5 : snap (.d (eS s)) s' = .ok (.tup (s.map eM)) s' := rfl
      simp only [ev_tup, ev_star, ev_var, List.getElem?_cons_succ, List.getElem?_cons_zero, optV_some, bind_ok, ev_bnd, e5, ev_starT, ev_cons, ev_nil, ev_ret, eS_app, ev_plains]
      rw [ev_cap _ _ _ (by rw [List.length_map, List.length_append]; simp; omega)]
      rfl
    rw [filter_tt, List.map_map]
    rfl
  have fin : ∀ k : Nat, (nxt b.moves s) = ((b.moves.drop k).map fun m => s ++ [m]) → sExpr (dMth mExtend (dVar 4) (dCons (dLc (iSeq (dSl2 (dVar 1) (oSome (dVar 6)) oNone)) (tgN 7) tYs (dTup (dStar (dVar 5) (dCons (dVar 7) dNil))) [7] false) dNil)) [some (.d (eB b)), some (.d (.lst (b.moves.map eM))), some (.cell st.length), some c3, some (.cell (st ++ j).length), some (.d (eS s)), some (.d (.int (k : Nat))), x7] (st ++ j ++ [some (.lst acc)]) =
      .nx [some (.d (eB b)), some (.d (.lst (b.moves.map eM))), some (.cell st.length), some c3, some (.cell (st ++ j).length), some (.d (eS s)), some (.d (.int (k : Nat))), x7] (st ++ j ++ [some (.lst (acc ++ (nxt b.moves s).map eS))]) := fun k hk => by
    simp only [ev_sExpr, ev_mth, ev_var, List.getElem?_cons_succ, List.getElem?_cons_zero, optV_some, bind_ok, ev_bnd, ev_isL (last_get _ _), ev_cons, main, ev_nil, ev_ret]
    rw [ev_extend (last_get _ _) (by rw [List.length_map, List.length_map, List.length_drop]; omega), last_set, hk]
    rfl
  simp only [forStep, ev_tgN, L_all_sets_0]
  cases s with
  | nil =>
    refine ⟨some (.d (.int (0 : Nat))), ?_⟩
    simp only [List.set_cons_succ, List.set_cons_zero, ev_sSeq, ev_sSet, ev_if, ev_cmp, ev_var, List.getElem?_cons_succ, List.getElem?_cons_zero, optV_some, bind_ok, ev_bnd, ev_tup, ev_nil, ev_plains_nil, List.length_nil]
    rw [ev_cap _ _ _ (by decide)]
    simp only [ev_ret, bind_ok, ev_opB, ev_snap, ev_bnd]
    rw [ev_ne _ _ _ e0, e1]
    have := fin 0 rfl
    simp only [List.isEmpty_nil, Bool.not_true, bind_ok, Bool.false_eq_true, if_false, ev_con, bindE_ok, List.set_cons_succ, List.set_cons_zero, seq_nx, show ((0 : Nat) : Int) = 0 from rfl] at this ⊢
    exact this
  | cons a r =>
    obtain ⟨s0, m, es⟩ : ∃ s0 m, a :: r = s0 ++ [m] := ⟨(a :: r).dropLast, (a :: r).getLast (by simp), (List.dropLast_concat_getLast (by simp)).symm⟩
    rw [es] at hs hs' e0 e1 main fin ⊢
    have hmm : m ∈ b.moves := hs m (by simp)
    refine ⟨some (.d (.int ((b.moves.idxOf m + 1 : Nat) : Int))), ?_⟩
    have e6 : ixD (eS (s0 ++ [m])) (.int (-1)) (st ++ j ++ [some (.lst acc)]) = .ok (eM m) (st ++ j ++ [some (.lst acc)]) := by
      show optM (atD ((s0 ++ [m]).map eM) (-1)) _ = _
      rw [List.map_append]
      show optM (atD (s0.map eM ++ [eM m]) (-1)) _ = _
      rw [atD_last]
      rfl
    have e7 : isTg isL (.d (.lst (b.moves.map eM))) (st ++ j ++ [some (.lst acc)]) = .ok () (st ++ j ++ [some (.lst acc)]) := rfl
    have e8 : (s0 ++ [m]).isEmpty = false := by simp
    simp only [List.set_cons_succ, List.set_cons_zero, ev_sSeq, ev_sSet, ev_if, ev_cmp, ev_var, List.getElem?_cons_succ, List.getElem?_cons_zero, optV_some, bind_ok, ev_bnd, ev_tup, ev_nil, ev_plains_nil, List.length_nil]
    rw [ev_cap _ _ _ (by decide)]
    simp only [ev_ret, bind_ok, ev_opB, ev_snap, ev_bnd]
    rw [ev_ne _ _ _ e0, e1, e8]
    have := fin (b.moves.idxOf m + 1) (by unfold nxt; simp)
    simp only [Bool.not_false, bind_ok, if_true, ev_bin, ev_mth, ev_var, List.getElem?_cons_succ, List.getElem?_cons_zero, optV_some, ev_bnd, e7, ev_cons, ev_ix, ev_neg, ev_con, ev_plain, ev_negI, ev_opD, ev_snap, e6, ev_ret, ev_nil, ev_index hmm hmv, ev_addI, bindE_ok, List.set_cons_succ, List.set_cons_zero, seq_nx] at this ⊢
    exact this
theorem T_sets {l : List (List Mv)} (hl : ∀ s ∈ l, ∀ m ∈ s, m ∈ b.moves) (e1 e2 e3 x4 x5 x6 x7 : Option Val) (s : Sto) : T_all_sets_1 [e1, e2, e3, some (.d (.lst (l.map eS))), x4, x5, x6, x7] s = .ok (!l.isEmpty) s := by
  have h : okQ (.lst (l.map eS)) (.lst []) = true := by
    unfold okQ
    rw [isData_lst, List.all_map]
    have : (l.all (isData 7 ∘ eS)) = true := by
      rw [List.all_eq_true]
      intro s hs
      show isData 7 (eS s) = true
      unfold eS
      rw [isData_tup]
      exact all_moves (ok.sok (hl s hs))
    rw [this]
    rfl
  simp [T_all_sets_1, h, eqD_lst0]
theorem while_sets : ∀ (m k : Nat) (f l : List (List Mv)) (j : Sto) (x4 x5 x6 x7 : Option Val), SInv b.moves k f l → (l ≠ [] → 8 ≤ m + k) → 0 < m → j.all plainC = true →
    ∃ j' y3 y4 y5 y6 y7, whileD T_all_sets_1 L_all_sets_2 m [some (.d (eB b)), some (.d (.lst (b.moves.map eM))), some (.cell st.length), some (.d (.lst (l.map eS))), x4, x5, x6, x7] (st ++ some (.lst (f.map eS)) :: j) =
      .nx [some (.d (eB b)), some (.d (.lst (b.moves.map eM))), some (.cell st.length), y3, y4, y5, y6, y7] (st ++ some (.lst ((setsL b.moves m f l).map eS)) :: j') := by
  intro m
  induction m with
  | zero =>
    intro k f l j x4 x5 x6 x7 inv hk hz _
    exact absurd hz (Nat.lt_irrefl 0)
  | succ m ih =>
    intro k f l j x4 x5 x6 x7 inv hk hz hj
    have hl : ∀ s ∈ l, ∀ m ∈ s, m ∈ b.moves := fun s hs => (inv.hl s hs).1
    have ht := T_sets ok hw hl (some (.d (eB b))) (some (.d (.lst (b.moves.map eM)))) (some (.cell st.length)) x4 x5 x6 x7 (st ++ some (.lst (f.map eS)) :: j)
    unfold setsL
    cases q : l.isEmpty with
    | true =>
      rw [q] at ht
      rw [ev_whileF ht]
      exact ⟨_, _, _, _, _, _, rfl⟩
    | false =>
      rw [q] at ht
      rw [if_neg Bool.false_ne_true]
      have hne : l ≠ [] := fun e => by rw [e] at q; cases q
      have hk := hk hne
      have hk6 := inv.small ok.mnd ok.mvl hne
      have hp : 6 ^ k ≤ 46656 := by
        have : 6 ^ k ≤ 6 ^ 6 := Nat.pow_le_pow_right (by decide) hk6
        have e : 6 ^ 6 = 46656 := by decide
        omega
      have hll := inv.ll
      have hfl := inv.fl
      have hflat := flat_len ok.mnd ok.mvl l
      have hj' : (some (Cel.lst (f.map eS)) :: j).all plainC = true := by rw [List.all_cons, hj]; rfl
      -- the inner loop
      have loop : ∃ y5 y6, forL (tgN 5) L_all_sets_0 (l.map eS) [some (.d (eB b)), some (.d (.lst (b.moves.map eM))), some (.cell st.length), some (.d (.lst (l.map eS))), some (.cell (st ++ some (.lst (f.map eS)) :: j).length), x5, x6, x7] (st ++ some (.lst (f.map eS)) :: j ++ [some (.lst [])]) =
          .nx [some (.d (eB b)), some (.d (.lst (b.moves.map eM))), some (.cell st.length), some (.d (.lst (l.map eS))), some (.cell (st ++ some (.lst (f.map eS)) :: j).length), y5, y6, x7] (st ++ some (.lst (f.map eS)) :: j ++ [some (.lst ((l.flatMap (nxt b.moves)).map eS))]) := by
        have go : ∀ (r : List (List Mv)) (acc : List (List Mv)) (y5 y6 : Option Val), (∀ s ∈ r, (∀ m ∈ s, m ∈ b.moves) ∧ s.length ≤ 6) → acc.length + 6 * r.length ≤ 300000 →
            ∃ z5 z6, forL (tgN 5) L_all_sets_0 (r.map eS) [some (.d (eB b)), some (.d (.lst (b.moves.map eM))), some (.cell st.length), some (.d (.lst (l.map eS))), some (.cell (st ++ some (.lst (f.map eS)) :: j).length), y5, y6, x7] (st ++ some (.lst (f.map eS)) :: j ++ [some (.lst (acc.map eS))]) =
              .nx [some (.d (eB b)), some (.d (.lst (b.moves.map eM))), some (.cell st.length), some (.d (.lst (l.map eS))), some (.cell (st ++ some (.lst (f.map eS)) :: j).length), z5, z6, x7] (st ++ some (.lst (f.map eS)) :: j ++ [some (.lst ((acc ++ r.flatMap (nxt b.moves)).map eS))]) := by
          intro r
          induction r with
          | nil => intro acc y5 y6 _ _; exact ⟨y5, y6, by rw [List.flatMap_nil, List.append_nil]; rfl⟩
          | cons s r ih2 =>
            intro acc y5 y6 hr hn
            rw [List.length_cons] at hn
            obtain ⟨h1, h2⟩ := hr s (List.mem_cons_self ..)
            obtain ⟨z6, h3⟩ := turn_sets ok hw hj' (x5 := y5) (x6 := y6) (x7 := x7) (c3 := .d (.lst (l.map eS))) h1 h2 (acc.map eS) (by rw [List.length_map]; omega)
            rw [← List.map_append] at h3
            have := nxt_len ok.mnd ok.mvl s
            obtain ⟨w5, w6, h4⟩ := ih2 (acc ++ nxt b.moves s) (some (.d (eS s))) z6 (fun s hs => hr s (List.mem_cons_of_mem _ hs)) (by rw [List.length_append]; omega)
            refine ⟨w5, w6, ?_⟩
            rw [List.map_cons]
            show (match forStep (tgN 5) L_all_sets_0 (eS s) _ _ with | .nx e' s' => forL (tgN 5) L_all_sets_0 (r.map eS) e' s' | .ct e' s' => forL (tgN 5) L_all_sets_0 (r.map eS) e' s' | .bk e' s' => .nx e' s' | r => r) = _
            rw [h3]
            show forL (tgN 5) L_all_sets_0 (r.map eS) _ _ = _
            rw [h4, List.flatMap_cons, List.append_assoc acc]
        have := go l [] x5 x6 (fun s hs => ⟨(inv.hl s hs).1, by have := (inv.hl s hs).2.1; omega⟩) (by simp; omega)
        simpa using this
      obtain ⟨y5, y6, loop⟩ := loop
      have hb : L_all_sets_2 [some (.d (eB b)), some (.d (.lst (b.moves.map eM))), some (.cell st.length), some (.d (.lst (l.map eS))), x4, x5, x6, x7] (st ++ some (.lst (f.map eS)) :: j) =
          .nx [some (.d (eB b)), some (.d (.lst (b.moves.map eM))), some (.cell st.length), some (.d (.lst ((l.flatMap (nxt b.moves)).map eS))), some (.d (.lst ((l.flatMap (nxt b.moves)).map eS))), y5, y6, x7] (st ++ some (.lst ((f ++ l.flatMap (nxt b.moves)).map eS)) :: (j ++ [none])) := by
        unfold L_all_sets_2
        simp only [ev_sSeq, ev_sSet, ev_lstL, ev_nil, bind_ok, ev_bnd, ev_plains_nil, List.length_nil]
        rw [ev_cap _ _ _ (by decide)]
        simp only [ev_newCell, bindE_ok, List.set_cons_succ, List.set_cons_zero, seq_nx, ev_forS, ev_iSeq, ev_var, List.getElem?_cons_succ, List.getElem?_cons_zero, optV_some, bind_ok, ev_srcL, ev_forR, loop, ev_sSeq, ev_sFrz, ev_frzC]
        rw [frzV_lst _ _ _ _ _ (last_get _ _), last_set]
        have e1 : st ++ some (Cel.lst (f.map eS)) :: j ++ [none] = st ++ some (Cel.lst (f.map eS)) :: (j ++ [none]) := by simp
        rw [e1]
        simp only [List.set_cons_succ, List.set_cons_zero, seq_nx, ev_sSeq, ev_sExpr, ev_mth, ev_var, List.getElem?_cons_succ, List.getElem?_cons_zero, optV_some, bind_ok, ev_bnd, ev_isL (mid_get _ _ _), ev_cons, ev_nil, ev_ret]
        rw [ev_extend (mid_get _ _ _) (by rw [List.length_map, List.length_map]; omega), mid_set, ← List.map_append]
        simp only [bindE_ok, seq_nx, ev_sSet, ev_var, List.getElem?_cons_succ, List.getElem?_cons_zero, optV_some, List.set_cons_succ, List.set_cons_zero]
      rw [ev_whileT ht hb]
      exact ih (k + 1) _ _ (j ++ [none]) _ _ _ _ (inv.next ok.mnd ok.mvl) (fun _ => by omega) (by omega) (by rw [List.all_append, hj]; rfl)
theorem G_sets_ok : G_all_sets [.d (eB b)] [] st = .ok (.d (.lst ((allSets b).map eS))) st := by
  simp only [G_all_sets, ev_def1, dS_all_sets]
  obtain ⟨j', y3, y4, y5, y6, y7, h⟩ := while_sets ok hw 1000 0 [[]] [[]] [] none none none none (SInv.start ok.mnd ok.mvl) (fun _ => by omega) (by omega) rfl
  have e1 : listD false (eFe b.fees) st = .ok (.d (.lst (b.moves.map eM))) st := by
    show Rs.ok (Val.d (.lst ((b.fees.map fun p => (eM p.1, D.int p.2)).map (·.1)))) st = _
    unfold Bd.moves
    rw [List.map_map, List.map_map]
    rfl
  have e2 : ([[]] : List (List Mv)).map eS = [D.tup []] := rfl
  rw [e2] at h
  simp only [Nat.reduceSub, List.reduceReplicate, ev_sSeq, ev_sPar, ev_cons, ev_dB, ev_fld, ev_var, List.getElem?_cons_succ, List.getElem?_cons_zero, optV_some, bind_ok, eB_fees, ev_bnd, ev_nil, ev_ret, ev_bList, ev_snap, e1, ev_lstL, ev_tup, ev_plains_nil, List.length_nil]
  rw [ev_cap _ _ _ (by decide)]
  simp only [ev_ret, bind_ok, ev_bnd, ev_nil, ev_plains_cons, ev_plains_nil, List.length_cons, List.length_nil]
  rw [ev_cap _ _ _ (by decide)]
  simp only [ev_newCell, ev_bnd, ev_nil, bind_ok, ev_ret, bindE_ok, List.length_cons, List.length_nil, if_true, List.zip_cons_cons, List.zip_nil_left, ev_setAll_cons, ev_setAll_nil, List.set_cons_succ, List.set_cons_zero, seq_nx, ev_sSeq, ev_sSet, ev_lst, ev_cons, ev_tup, ev_plains_nil]
  rw [ev_cap _ _ _ (by decide)]
  simp only [ev_ret, bind_ok, ev_bnd, ev_nil, ev_plains_cons, ev_plains_nil, List.length_cons, List.length_nil]
  rw [ev_cap _ _ _ (by decide)]
  simp only [ev_ret, bind_ok, bindE_ok, List.set_cons_succ, List.set_cons_zero, seq_nx, h, ev_sSeq, ev_sFrz, List.getElem?_cons_succ, List.getElem?_cons_zero, ev_frzC]
  rw [frzV_lst _ _ _ _ _ (mid_get _ _ _)]
  simp [trunc_app hw]
  rfl
end
end Pg
/-! FpJ -/
/-! FpJ: costs, winning sets, the cheapest one. -/
namespace Pg
open PySem Fb
def costOf (b : Bd) (s : List Mv) : Int := (s.map fun m => (b.fees.lookup m).getD 0).sum
def goodSets (b : Bd) : List (List Mv) := (allSets b).filter (wins b)
def badSets (b : Bd) : List (List Mv) := (allSets b).filter fun s => !wins b s
def eSs (l : List (List Mv)) : D := .lst (l.map eS)
def eTs (l : List Tr) : D := .lst (l.map eTr)
section
variable {b : Bd} (ok : OkB b) {st : Sto} (hw : Wf st)
include ok hw
theorem G_cost_ok {s : List Mv} (hs : ∀ m ∈ s, m ∈ b.moves) (hn : s.length ≤ 1000) : G_cost_of [.d (eB b), .d (eS s)] [] st = .ok (.d (.int (costOf b s))) st := by
  simp only [G_cost_of, ev_def2, dS_cost_of]
  have e1 : dLc (iSeq (dVar 1)) (tgN 2) tYs (dIx (dFld fd_fees (dVar 0)) (dVar 2)) [2] false [some (.d (eB b)), some (.d (eS s)), none] st = .ok (.d (.lst ((s.filter fun _ => true).map fun m => .int ((b.fees.lookup m).getD 0)))) st := by
    rw [ev_dLc (enc := eM) (E := fun m => [some (.d (eB b)), some (.d (eS s)), some (.d (eM m))]) (p := fun _ => true) s (fun m => .int ((b.fees.lookup m).getD 0)) ?h1 hw (by omega) ?h2 ?h3 ?h4]
    case h1 => simp
    case h2 => intro a ha; simp
    case h3 => intro a ha s' w; simp
    case h4 =>
      intro a ha _ s' w
      obtain ⟨v, hv, _⟩ := lookup_mem (l := b.fees) (hs a ha)
      have e : ixD (eFe b.fees) (eM a) s' = .ok (.int v) s' := by
        unfold eFe
        rw [ev_ixK _ _ _ _ (isKey_eM _), look_moves (fun i => D.int i), hv]
        rfl
      simp [e, hv]
  rw [filter_tt] at e1
  simp [e1, trunc_self hw]
  rfl
theorem G_set_cost_ok {s : List Mv} (hs : isSt b s = true) (hn : s.length ≤ 1000) (hm : ∀ m ∈ s, m ∈ b.moves) : G_set_cost [.d (eB b), .d (eS s)] [] st = .ok (.d (.int (costOf b s))) st := by
  simp only [G_set_cost, ev_def2, dS_set_cost]
  simp [G_cs_ok ok hw hs hn, G_cost_ok ok hw hm hn, trunc_self hw]
theorem turn_parted {s : List Mv} (hs : ∀ m ∈ s, m ∈ b.moves) {g h : List D} (hg : g.length < 1000000) (hh : h.length < 1000000) (x3 : Option Val) :
    forStep (tgN 3) L_parted_0 (eS s) [some (.d (eB b)), some (.cell st.length), some (.cell (st.length + 1)), x3] (st ++ [some (.lst g), some (.lst h)]) =
      .nx [some (.d (eB b)), some (.cell st.length), some (.cell (st.length + 1)), some (.d (eS s))] (st ++ [some (.lst (if wins b s then g ++ [eS s] else g)), some (.lst (if wins b s then h else h ++ [eS s]))]) := by
  have wd : Wf (st ++ [some (.lst g), some (.lst h)]) := Wf.plain hw rfl
  have hv := G_wins_ok ok (ok.sok hs) wd
  simp only [forStep, ev_tgN, L_parted_0, List.set_cons_succ, List.set_cons_zero, ev_sIf, ev_vT, ev_call, ev_cons, ev_var, List.getElem?_cons_succ, List.getElem?_cons_zero, optV_some, bind_ok, ev_bnd, ev_nil, ev_ret, hv, ev_asB, bindE_ok]
  unfold wins
  by_cases q : b.start ∈ keys (distancesOf b s)
  · simp only [q, decide_true, if_true, ev_sExpr, ev_mth, ev_var, List.getElem?_cons_succ, List.getElem?_cons_zero, optV_some, bind_ok, ev_bnd, ev_isL (two_get0 _ _ _), ev_cons, ev_nil, ev_ret]
    rw [ev_append _ (two_get0 _ _ _) hg, two_set0]
    rfl
  · simp only [q, decide_false, Bool.false_eq_true, if_false, ev_sExpr, ev_mth, ev_var, List.getElem?_cons_succ, List.getElem?_cons_zero, optV_some, bind_ok, ev_bnd, ev_isL (two_get1 _ _ _), ev_cons, ev_nil, ev_ret]
    rw [ev_append _ (two_get1 _ _ _) hh, two_set1]
    rfl
theorem sets_len : (allSets b).length ≤ 400000 := by
  have key : ∀ (n k : Nat) (f l : List (List Mv)), SInv b.moves k f l → k ≤ 7 → (setsL b.moves n f l).length ≤ 2 * 6 ^ 7 ∧ True := by
    intro n
    induction n with
    | zero =>
      intro k f l h hk
      have : 6 ^ k ≤ 6 ^ 7 := Nat.pow_le_pow_right (by decide) hk
      have := h.fl
      exact ⟨by unfold setsL; omega, trivial⟩
    | succ n ih =>
      intro k f l h hk
      unfold setsL
      have : 6 ^ k ≤ 6 ^ 7 := Nat.pow_le_pow_right (by decide) hk
      have := h.fl
      cases z : l.isEmpty with
      | true => rw [if_pos rfl]; exact ⟨by omega, trivial⟩
      | false =>
        rw [if_neg Bool.false_ne_true]
        have := h.small ok.mnd ok.mvl (fun e => by rw [e] at z; cases z)
        exact ih (k + 1) _ _ (h.next ok.mnd ok.mvl) (by omega)
  have := (key 1000 0 _ _ (SInv.start ok.mnd ok.mvl) (by omega)).1
  have e : 2 * 6 ^ 7 = 559872 := by decide
  -- the sharper bound: the seventh layer is empty
  have key2 : ∀ (n k : Nat) (f l : List (List Mv)), SInv b.moves k f l → k ≤ 7 → f.length + 6 * l.length ≤ 400000 ∨ l.length = 0 ∧ f.length ≤ 400000 → (setsL b.moves n f l).length ≤ 400000 := by
    intro n
    induction n with
    | zero => intro k f l h hk h2; unfold setsL; omega
    | succ n ih =>
      intro k f l h hk h2
      unfold setsL
      cases z : l.isEmpty with
      | true => rw [if_pos rfl]; omega
      | false =>
        rw [if_neg Bool.false_ne_true]
        have hne : l ≠ [] := fun e => by rw [e] at z; cases z
        have hk6 := h.small ok.mnd ok.mvl hne
        have hn := h.next ok.mnd ok.mvl
        have hp : 6 ^ k ≤ 6 ^ 6 := Nat.pow_le_pow_right (by decide) hk6
        have e6 : 6 ^ 6 = 46656 := by decide
        have hll := h.ll
        have hfl := h.fl
        have hflat := flat_len ok.mnd ok.mvl l
        refine ih (k + 1) _ _ hn (by omega) ?_
        rw [List.length_append]
        by_cases q : l.flatMap (nxt b.moves) = []
        · right
          rw [q]
          simp only [List.length_nil, Nat.add_zero, true_and]
          omega
        · left
          have := hn.small ok.mnd ok.mvl q
          have hp5 : 6 ^ k ≤ 6 ^ 5 := Nat.pow_le_pow_right (by decide) (by omega)
          have e5 : 6 ^ 5 = 7776 := by decide
          omega
  exact key2 1000 0 _ _ (SInv.start ok.mnd ok.mvl) (by omega) (.inl (by simp))
theorem G_parted_ok : G_parted [.d (eB b)] [] st = .ok (.d (.tup [eSs (goodSets b), eSs (badSets b)])) st := by
  simp only [G_parted, ev_def1, dS_parted]
  have hlen := sets_len ok hw
  have loop : ∀ (l : List (List Mv)) (g h : List (List Mv)) (x3 : Option Val), (∀ s ∈ l, ∀ m ∈ s, m ∈ b.moves) → g.length + h.length + l.length ≤ 400000 →
      ∃ y3, forL (tgN 3) L_parted_0 (l.map eS) [some (.d (eB b)), some (.cell st.length), some (.cell (st.length + 1)), x3] (st ++ [some (.lst (g.map eS)), some (.lst (h.map eS))]) =
        .nx [some (.d (eB b)), some (.cell st.length), some (.cell (st.length + 1)), y3] (st ++ [some (.lst ((g ++ l.filter (wins b)).map eS)), some (.lst ((h ++ l.filter fun s => !wins b s).map eS))]) := by
    intro l
    induction l with
    | nil => intro g h x3 _ _; exact ⟨x3, by rw [List.filter_nil, List.filter_nil, List.append_nil, List.append_nil]; rfl⟩
    | cons s r ih =>
      intro g h x3 hs hn
      rw [List.length_cons] at hn
      have h3 := turn_parted ok hw (hs s (List.mem_cons_self ..)) (g := g.map eS) (h := h.map eS) (by rw [List.length_map]; omega) (by rw [List.length_map]; omega) x3
      rw [List.map_cons]
      have key : ∀ e s', forL (tgN 3) L_parted_0 (eS s :: r.map eS) e s' = (match forStep (tgN 3) L_parted_0 (eS s) e s' with | .nx e' s' => forL (tgN 3) L_parted_0 (r.map eS) e' s' | .ct e' s' => forL (tgN 3) L_parted_0 (r.map eS) e' s' | .bk e' s' => .nx e' s' | r => r) := fun _ _ => rfl
      rw [key, h3]
      cases q : wins b s with
      | true =>
        obtain ⟨y3, h4⟩ := ih (g ++ [s]) h (some (.d (eS s))) (fun s hs' => hs s (List.mem_cons_of_mem _ hs')) (by rw [List.length_append]; simp; omega)
        refine ⟨y3, ?_⟩
        rw [List.filter_cons_of_pos q, List.filter_cons_of_neg (by rw [q]; decide)]
        have e1 : g ++ s :: r.filter (wins b) = g ++ [s] ++ r.filter (wins b) := by simp
        rw [e1, ← h4, List.map_append]
        rfl
      | false =>
        obtain ⟨y3, h4⟩ := ih g (h ++ [s]) (some (.d (eS s))) (fun s hs' => hs s (List.mem_cons_of_mem _ hs')) (by rw [List.length_append]; simp; omega)
        refine ⟨y3, ?_⟩
        rw [List.filter_cons_of_neg (by rw [q]; decide), List.filter_cons_of_pos (by rw [q]; rfl)]
        have e1 : h ++ s :: (r.filter fun s => !wins b s) = h ++ [s] ++ r.filter fun s => !wins b s := by simp
        rw [e1, ← h4, List.map_append]
        rfl
  obtain ⟨y3, loop⟩ := loop (allSets b) [] [] none (fun s hs => (allSets_sub ok s hs).1) (by simpa using hlen)
  have wd : Wf (st ++ [some (.lst []), some (.lst [])]) := Wf.plain hw rfl
  simp only [List.map_nil] at loop
  simp only [Nat.reduceSub, List.reduceReplicate, ev_sSeq, ev_sPar, ev_cons, ev_lstL, ev_nil, bind_ok, ev_bnd, ev_plains_nil, List.length_nil]
  rw [ev_cap _ _ _ (by decide)]
  simp only [ev_newCell, bind_ok, ev_bnd, ev_cons, ev_lstL, ev_nil, ev_plains_nil, List.length_nil]
  rw [ev_cap _ _ _ (by decide)]
  simp only [ev_newCell, bind_ok, ev_bnd, ev_ret, ev_nil, bindE_ok, List.length_cons, List.length_nil, if_true, List.zip_cons_cons, List.zip_nil_left, ev_setAll_cons, ev_setAll_nil, List.set_cons_succ, List.set_cons_zero, seq_nx, List.length_append, Nat.zero_add, List.append_assoc, List.cons_append, List.nil_append, ev_sSeq, ev_forS, ev_iSeq, ev_call, ev_var, List.getElem?_cons_succ, List.getElem?_cons_zero, optV_some, G_sets_ok ok wd, ev_srcL, ev_forR, ev_cons, loop, ev_sFrz, ev_frzC]
  rw [frzV_lst _ _ _ _ _ (two_get0 _ _ _), two_set0]
  simp only [List.set_cons_succ, List.set_cons_zero, seq_nx, ev_sSeq, ev_sFrz, List.getElem?_cons_succ, List.getElem?_cons_zero, ev_frzC]
  rw [frzV_lst _ _ _ _ _ (two_get1 _ _ _), two_set1]
  simp only [List.set_cons_succ, List.set_cons_zero, seq_nx, ev_sRet, ev_tup, ev_cons, ev_var, List.getElem?_cons_succ, List.getElem?_cons_zero, optV_some, bind_ok, ev_bnd, ev_nil, ev_ret, ev_plains_cons, ev_plains_nil, List.length_cons, List.length_nil]
  rw [ev_cap _ _ _ (by decide)]
  simp only [ev_ret, bindE_ok, fin_rt, trunc_app hw]
  rfl
theorem G_winning_sets_ok : G_winning_sets [.d (eB b)] [] st = .ok (.d (eSs (goodSets b))) st := by
  simp only [G_winning_sets, ev_def1, dS_winning_sets]
  simp [G_cb_ok ok hw, G_parted_ok ok hw, atD_zero, trunc_self hw]
end
/-! ### answers -/
def eFo (s : List Mv) (r : List (Str × Int)) (ts : List Tr) : D := .ins 2 [eS s, eDi r, eTs ts]
def eNo (ts : List Tr) : D := .ins 3 [eTs ts]
def againstOk (b : Bd) (ts : List Tr) (sets : List (List Mv)) : Bool := ts.all (trapOk b) && sets.all fun s => ts.any (holdsAg b s)
def showsF (b : Bd) (s : List Mv) (r : List (Str × Int)) (ts : List Tr) : Bool := ranksOk b s r && againstOk b ts ((allSets b).filter fun t => decide (costOf b t < costOf b s))
def showsN (b : Bd) (ts : List Tr) : Bool := againstOk b ts (allSets b)
@[simp] theorem src_eTs (l : List Tr) (s : Sto) : srcOf (.d (eTs l)) s = .ok (.its (l.map eTr)) s := rfl
@[simp] theorem src_eSs (l : List (List Mv)) (s : Sto) : srcOf (.d (eSs l)) s = .ok (.its (l.map eS)) s := rfl
@[simp] theorem eFo_s (s : List Mv) (r : List (Str × Int)) (ts : List Tr) (st : Sto) : getF fd_forbidden (.d (eFo s r ts)) st = .ok (.d (eS s)) st := rfl
@[simp] theorem eFo_r (s : List Mv) (r : List (Str × Int)) (ts : List Tr) (st : Sto) : getF fd_ranks (.d (eFo s r ts)) st = .ok (.d (eDi r)) st := rfl
@[simp] theorem eFo_t (s : List Mv) (r : List (Str × Int)) (ts : List Tr) (st : Sto) : getF fd_traps (.d (eFo s r ts)) st = .ok (.d (eTs ts)) st := rfl
@[simp] theorem eNo_t (ts : List Tr) (st : Sto) : getF fd_traps (.d (eNo ts)) st = .ok (.d (eTs ts)) st := rfl
section
variable {st : Sto} (hw : Wf st)
include hw
theorem G_copied_ok {ts : List Tr} (ht : ∀ t ∈ ts, (tkeys t).Nodup ∧ t.length ≤ 1000) (hn : ts.length ≤ 500000) : G_copied [.d (eTs ts)] [] st = .ok (.d (eTs ts)) st := by
  simp only [G_copied, ev_def1, dS_copied]
  have e1 : dLc (iSeq (dVar 0)) (tgN 1) tYs (dDc false (iItems (dVar 1)) (tgT [2, 3]) tYs (dVar 2) (dVar 3) [2, 3]) [1] false [some (.d (eTs ts)), none, none, none] st = .ok (.d (.lst ((ts.filter fun _ => true).map eTr))) st := by
    rw [ev_dLc (enc := eTr) (E := fun t => [some (.d (eTs ts)), some (.d (eTr t)), none, none]) (p := fun _ => true) ts eTr ?h1 hw (by omega) ?h2 ?h3 ?h4]
    case h1 => simp
    case h2 => intro a ha; simp
    case h3 => intro a ha s' w; simp
    case h4 =>
      intro t ha _ s' w
      rw [ev_dDc (enc := fun p : Str × Option Str => .tup [eN p.1, eOs p.2]) (E := fun p => [some (.d (eTs ts)), some (.d (eTr t)), some (.d (eN p.1)), some (.d (eOs p.2))]) (p := fun _ => true) false t (fun p => eN p.1) (fun p => eOs p.2) ?h1 w ?h0 ?h2 ?h3 ?h4 ?h5 ?h6]
      case h1 => simp
      case h0 => have := (ht t ha).2; omega
      case h2 => intro a ha; simp
      case h3 => intro a ha s' w; simp
      case h4 => intro a ha _ s' w; simp
      case h5 => intro a ha _ s' w; simp
      case h6 => intro a ha; simp
      rw [filter_tt, putAllN0 eOs t, dPuts_nil (ht t ha).1]
      rfl
  rw [filter_tt] at e1
  simp [e1, trunc_self hw]
  rfl
theorem mk_forb {s : List Mv} {r : List (Str × Int)} {ts : List Tr} (hr : (keys r).Nodup) (hrl : r.length ≤ 1000) (ht : ∀ t ∈ ts, (tkeys t).Nodup ∧ t.length ≤ 1000) (hn : ts.length ≤ 500000) : dMake false 3 2 G_Forbiddingu__initu_ [.d (eS s), .d (eDi r), .d (eTs ts)] [] st = .ok (.d (eFo s r ts)) st := by
  refine ev_make (fs := [(0, .d (eS s)), (1, .d (eDi r)), (2, .d (eTs ts))]) ?_ rfl rfl hw
  have w1 := Wf.ins hw 2 [(0, .d (eS s))] rfl
  have w2 := Wf.ins hw 2 [(0, .d (eS s)), (1, .d (eDi r))] rfl
  have w3 := Wf.ins hw 2 [(0, .d (eS s)), (1, .d (eDi r)), (2, .d (eTs ts))] rfl
  simp only [G_Forbiddingu__initu_, ev_def4, dS_Forbiddingu__initu_]
  have e1 : dDc false (iItems (dVar 2)) (tgT [4, 5]) tYs (dVar 4) (dVar 5) [4, 5] [some (.cell st.length), some (.d (eS s)), some (.d (eDi r)), some (.d (eTs ts)), none, none] (st ++ [some (.ins 2 [(0, .d (eS s))])]) = .ok (.d (eDi r)) (st ++ [some (.ins 2 [(0, .d (eS s))])]) := by
    rw [ev_dDc (enc := fun p : Str × Int => .tup [eN p.1, .int p.2]) (E := fun p => [some (.cell st.length), some (.d (eS s)), some (.d (eDi r)), some (.d (eTs ts)), some (.d (eN p.1)), some (.d (.int p.2))]) (p := fun _ => true) false r (fun p => eN p.1) (fun p => .int p.2) ?h1 w1 (by omega) ?h2 ?h3 ?h4 ?h5 ?h6]
    case h1 => simp
    case h2 => intro a ha; simp
    case h3 => intro a ha s' w; simp
    case h4 => intro a ha _ s' w; simp
    case h5 => intro a ha _ s' w; simp
    case h6 => intro a ha; simp
    rw [filter_tt, putAllN0 (fun i => D.int i) r, dPuts_nil hr]
    rfl
  simp only [Nat.reduceSub, List.reduceReplicate, ev_sSeq, ev_sAttr, ev_bnd, ev_var, List.getElem?_cons_succ, List.getElem?_cons_zero, optV_some, bind_ok]
  rw [ev_attrI (fld := fd_forbidden) (.d (eS s)) (last_get _ _) fd_forbidden_2 (by simp)]
  simp only [last_set, bindE_ok, seq_nx, ev_sSeq, ev_sAttr, ev_bnd, ev_var, List.getElem?_cons_succ, List.getElem?_cons_zero, optV_some, bind_ok, putN, e1]
  rw [ev_attrI (fld := fd_ranks) (.d (eDi r)) (last_get _ _) fd_ranks_2 (by simp)]
  simp only [last_set, bindE_ok, seq_nx, ev_sAttr, ev_bnd, ev_var, List.getElem?_cons_succ, List.getElem?_cons_zero, optV_some, bind_ok, putN, Nat.zero_ne_one, if_false, ev_call, ev_cons, ev_nil, ev_ret, G_copied_ok w2 ht hn]
  rw [ev_attrI (fld := fd_traps) (.d (eTs ts)) (last_get _ _) fd_traps_2 (by simp)]
  simp only [last_set, bindE_ok, fin_nx, putN]
  rw [trunc_same (by simpa [putN] using w3) (by simp)]
  simp [putN]
theorem mk_none {ts : List Tr} (ht : ∀ t ∈ ts, (tkeys t).Nodup ∧ t.length ≤ 1000) (hn : ts.length ≤ 500000) : dMake false 1 3 G_NoForbiddingu__initu_ [.d (eTs ts)] [] st = .ok (.d (eNo ts)) st := by
  refine ev_make (fs := [(0, .d (eTs ts))]) ?_ rfl rfl hw
  have w0 := Wf.ins hw 3 [] rfl
  have w3 := Wf.ins hw 3 [(0, .d (eTs ts))] rfl
  simp only [G_NoForbiddingu__initu_, ev_def2, dS_NoForbiddingu__initu_]
  simp only [Nat.reduceSub, List.reduceReplicate, ev_sAttr, ev_bnd, ev_var, List.getElem?_cons_succ, List.getElem?_cons_zero, optV_some, bind_ok, ev_call, ev_cons, ev_nil, ev_ret, G_copied_ok w0 ht hn]
  rw [ev_attrI (fld := fd_traps) (.d (eTs ts)) (last_get _ _) fd_traps_3 (by simp)]
  simp only [last_set, bindE_ok, fin_nx, putN]
  rw [trunc_same (by simpa [putN] using w3) (by simp)]
end
section
variable {b : Bd} (ok : OkB b) {st : Sto} (hw : Wf st)
include ok hw
theorem G_are_against_ok {ts : List Tr} (ht : ∀ t ∈ ts, TrOk b t) (htn : ts.length ≤ 500000) {sets : List (List Mv)} (hs : ∀ s ∈ sets, SOk s) (hsn : sets.length ≤ 500000) : G_are_against [.d (eB b), .d (eTs ts), .d (eSs sets)] [] st = .ok (.d (.bl (againstOk b ts sets))) st := by
  simp only [G_are_against, ev_def3, dS_are_against]
  have e1 : dLc (iSeq (dVar 1)) (tgN 4) tYs (dCallG G_is_right_trap (dCons (dVar 0) (dCons (dVar 4) dNil))) [4] false [some (.d (eB b)), some (.d (eTs ts)), some (.d (eSs sets)), none, none] st = .ok (.d (.lst ((ts.filter fun _ => true).map fun t => .bl (trapOk b t)))) st := by
    rw [ev_dLc (enc := eTr) (E := fun t => [some (.d (eB b)), some (.d (eTs ts)), some (.d (eSs sets)), none, some (.d (eTr t))]) (p := fun _ => true) ts (fun t => .bl (trapOk b t)) ?h1 hw (by omega) ?h2 ?h3 ?h4]
    case h1 => simp
    case h2 => intro a ha; simp
    case h3 => intro a ha s' w; simp
    case h4 => intro a ha _ s' w; simp [G_rtrap_ok ok w (ht a ha)]
  have e2 : dLc (iSeq (dVar 2)) (tgN 3) tYs (dB bAny (dCons (dLc (iSeq (dVar 1)) (tgN 4) tYs (dCallG G_holds_against (dCons (dVar 0) (dCons (dVar 3) (dCons (dVar 4) dNil)))) [4] false) dNil)) [3] false [some (.d (eB b)), some (.d (eTs ts)), some (.d (eSs sets)), none, none] st =
      .ok (.d (.lst ((sets.filter fun _ => true).map fun s => .bl (ts.any (holdsAg b s))))) st := by
    rw [ev_dLc (enc := eS) (E := fun s => [some (.d (eB b)), some (.d (eTs ts)), some (.d (eSs sets)), some (.d (eS s)), none]) (p := fun _ => true) sets (fun s => .bl (ts.any (holdsAg b s))) ?h1 hw (by omega) ?h2 ?h3 ?h4]
    case h1 => simp
    case h2 => intro a ha; simp
    case h3 => intro a ha s' w; simp
    case h4 =>
      intro s ha _ s' w
      have e3 : dLc (iSeq (dVar 1)) (tgN 4) tYs (dCallG G_holds_against (dCons (dVar 0) (dCons (dVar 3) (dCons (dVar 4) dNil)))) [4] false [some (.d (eB b)), some (.d (eTs ts)), some (.d (eSs sets)), some (.d (eS s)), none] s' = .ok (.d (.lst ((ts.filter fun _ => true).map fun t => .bl (holdsAg b s t)))) s' := by
        rw [ev_dLc (enc := eTr) (E := fun t => [some (.d (eB b)), some (.d (eTs ts)), some (.d (eSs sets)), some (.d (eS s)), some (.d (eTr t))]) (p := fun _ => true) ts (fun t => .bl (holdsAg b s t)) ?h1 w (by omega) ?h2 ?h3 ?h4]
        case h1 => simp
        case h2 => intro a ha; simp
        case h3 => intro a ha s' w; simp
        case h4 => intro a ha2 _ s' w; simp [G_against_ok ok w (ht a ha2) (hs s ha)]
      rw [filter_tt] at e3
      simp only [ev_dB, ev_cons, e3, bind_ok, ev_bnd, ev_nil, ev_ret, ev_any]
  rw [filter_tt] at e1 e2
  simp [e1]
  unfold againstOk
  cases q : ts.all (trapOk b) with
  | true =>
    simp only [Bool.not_true, Bool.false_eq_true, if_false, seq_nx, ev_sRet, ev_dB, ev_cons, e2, bind_ok, ev_bnd, ev_nil, ev_ret, ev_all, bindE_ok, fin_rt, trunc_self hw, Bool.true_and]
    have q' : ¬ ∃ x, x ∈ ts ∧ trapOk b x = false := fun ⟨x, hx, e⟩ => by
      have := List.all_eq_true.mp q x hx
      rw [e] at this
      cases this
    simp [q', e2, trunc_self hw]
  | false =>
    have q' : ∃ x, x ∈ ts ∧ trapOk b x = false := by
      rw [List.all_eq_false] at q
      obtain ⟨x, hx, e⟩ := q
      exact ⟨x, hx, by simpa using e⟩
    simp [q', trunc_self hw]
theorem G_showsF_ok {s : List Mv} {r : List (Str × Int)} {ts : List Tr} (hs : ∀ m ∈ s, m ∈ b.moves) (hsl : s.length ≤ 1000) (hr : ∀ n ∈ keys r, n ∈ b.names) (hrl : r.length ≤ 1000) (ht : ∀ t ∈ ts, TrOk b t) (htn : ts.length ≤ 500000) :
    G_Forbidding_shows [.d (eFo s r ts), .d (eB b)] [] st = .ok (.d (.bl (showsF b s r ts))) st := by
  simp only [G_Forbidding_shows, ev_def2, dS_Forbidding_shows]
  have hlen := sets_len ok hw
  have e1 : dLc (iSeq (dCallG G_all_sets (dCons (dVar 1) dNil))) (tgN 3) (tCmp .lt (dCallG G_cost_of (dCons (dVar 1) (dCons (dVar 3) dNil))) (dVar 2)) (dVar 3) [3] false [some (.d (eFo s r ts)), some (.d (eB b)), some (.d (.int (costOf b s))), none] st =
      .ok (.d (eSs ((allSets b).filter fun t => decide (costOf b t < costOf b s)))) st := by
    rw [ev_dLc (enc := eS) (E := fun t => [some (.d (eFo s r ts)), some (.d (eB b)), some (.d (.int (costOf b s))), some (.d (eS t))]) (p := fun t => decide (costOf b t < costOf b s)) (allSets b) eS ?h1 hw (by omega) ?h2 ?h3 ?h4]
    case h1 => simp [G_sets_ok ok hw]
    case h2 => intro a ha; simp
    case h3 =>
      intro a ha s' w
      obtain ⟨h1, h2⟩ := allSets_sub ok a ha
      simp [G_cost_ok ok w h1 (by omega)]
    case h4 => intro a ha _ s' w; simp
    rfl
  have e2 := G_are_against_ok ok hw ht htn (sets := (allSets b).filter fun t => decide (costOf b t < costOf b s)) (fun t h => ok.sok (allSets_sub ok t (List.mem_filter.mp h).1).1) (by have := List.length_filter_le (fun t => decide (costOf b t < costOf b s)) (allSets b); omega)
  simp [G_cb_ok ok hw, G_ranks_ok ok (ok.sok hs) hw hr hrl]
  unfold showsF
  cases ranksOk b s r <;> simp [G_cost_ok ok hw hs hsl, e1, e2, trunc_self hw]
theorem G_showsN_ok {ts : List Tr} (ht : ∀ t ∈ ts, TrOk b t) (htn : ts.length ≤ 500000) : G_NoForbidding_shows [.d (eNo ts), .d (eB b)] [] st = .ok (.d (.bl (showsN b ts))) st := by
  simp only [G_NoForbidding_shows, ev_def2, dS_NoForbidding_shows]
  have hlen := sets_len ok hw
  have e2 := G_are_against_ok ok hw ht htn (sets := allSets b) (fun t h => ok.sok (allSets_sub ok t h).1) (by omega)
  have e3 : D.lst ((allSets b).map eS) = eSs (allSets b) := rfl
  simp [G_cb_ok ok hw, G_sets_ok ok hw, e2, e3, trunc_self hw]
  rfl
end
end Pg
/-! FpK -/
/-! FpK: traps against sets, the cheapest set. -/
namespace Pg
open PySem Fb
/-- a comprehension over a list that stands in a cell -/
theorem ev_dLcC {α : Type} {g : DG} {t : DT} {el : DE} {e : DEnv} {E : α → DEnv} {p : α → Bool} {enc : α → D} {s : Sto} {src : DI} {vs : List Nat} {k : Nat} (l : List α) (fd : α → D) (hs : src e s = .ok (.cel k) s) (hk : s[k]? = some (some (.lst (l.map enc)))) (hw : Wf s) (hn : l.length < 100000)
    (hg : ∀ a ∈ l, g (enc a) (wipeD e vs) = some (E a)) (ht : ∀ a ∈ l, ∀ c, Wf (s ++ [c]) → t (E a) (s ++ [c]) = .ok (p a) (s ++ [c])) (he : ∀ a ∈ l, p a = true → ∀ c, Wf (s ++ [c]) → el (E a) (s ++ [c]) = .ok (.d (fd a)) (s ++ [c])) :
    dLc src g t el vs false e s = .ok (.d (.lst ((l.filter p).map fd))) s := by
  have hkl : k < s.length := (List.getElem?_eq_some_iff.mp hk).1
  have hcur : ∀ (c : Option Cel) (i : Nat), cur (.cel k) i (s ++ [c]) = some ((l.map enc)[i]?) := fun c i => by
    unfold cur
    simp only [List.getElem?_append_left hkl, hk]
  have go : ∀ (n i : Nat) (acc : List D), l.length - i < n → i ≤ l.length → acc.length + (l.length - i) ≤ 1000000 →
      lcD g t (addL el s.length) n (.cel k) i (wipeD e vs) (s ++ [some (.lst acc)]) = .ok () (s ++ [some (.lst (acc ++ ((l.drop i).filter p).map fd))]) := by
    intro n
    induction n with
    | zero => intro i acc h; omega
    | succ n ih =>
      intro i acc h hi ha
      unfold lcD
      show turnM g t _ _ (wipeD e vs) (cur (.cel k) i (s ++ [some (.lst acc)])) _ = _
      rw [hcur]
      by_cases hl : i < l.length
      · have e0 : (l.map enc)[i]? = some (enc l[i]) := by rw [List.getElem?_map, List.getElem?_eq_getElem hl]; rfl
        have hm : l[i] ∈ l := List.getElem_mem hl
        rw [e0, List.drop_eq_getElem_cons hl]
        show (match g (enc l[i]) (wipeD e vs) with | none => stk | some e1 => bnd (noX (t e1)) fun b => if b then bnd (addL el s.length e1) fun _ => lcD g t (addL el s.length) n (.cel k) (i + 1) (wipeD e vs) else lcD g t (addL el s.length) n (.cel k) (i + 1) (wipeD e vs) : M Unit) _ = _
        rw [hg _ hm]
        show bnd (noX (t (E l[i]))) _ _ = _
        rw [ev_bnd, noX_ok (ht _ hm _ (hw.lst acc)), bind_ok]
        cases z : p l[i] with
        | false => rw [if_neg Bool.false_ne_true, ih (i + 1) acc (by omega) (by omega) (by omega), List.filter_cons_of_neg (by rw [z]; exact Bool.false_ne_true)]
        | true =>
          rw [if_pos rfl]
          show bnd (bnd (noX (el (E l[i]))) fun v => bnd (plain v) fun x => pushC s.length x) _ _ = _
          rw [ev_bnd, ev_bnd, noX_ok (he _ hm z _ (hw.lst acc)), bind_ok, ev_bnd, ev_plain, bind_ok, pushC_at _ _ _ (by omega), bind_ok, ih (i + 1) _ (by omega) (by omega) (by rw [List.length_append]; simp; omega), List.filter_cons_of_pos z]
          simp
      · have e0 : (l.map enc)[i]? = none := List.getElem?_eq_none (by rw [List.length_map]; omega)
        rw [e0, List.drop_of_length_le (by omega)]
        show Rs.ok () _ = _
        simp
  unfold dLc comp
  rw [ev_bnd, hs, bind_ok]
  show bnd (lcD g t (addL el s.length) (fuelOf (.cel k)) (.cel k) 0 (wipeD e vs)) _ (s ++ [some (.lst [])]) = _
  rw [ev_bnd, show fuelOf (.cel k) = 100000 from rfl, go 100000 0 [] (by omega) (Nat.zero_le _) (by simp; omega), bind_ok, List.nil_append, List.drop_zero]
  exact dropL_at hw _
theorem ev_srcC {k : Nat} {s : Sto} {l : List D} (h : s[k]? = some (some (.lst l))) : srcOf (.cell k) s = .ok (.cel k) s := by
  unfold srcOf
  simp only [h]
/-! ### what is found is a trap's form -/
theorem trapL_inv {b : Bd} (ok : OkB b) {s : List Mv} : ∀ (m : Nat) (f : Tr) (w : List Str), (tkeys f).Nodup → (∀ p ∈ f, p.1 ∈ b.names ∧ ∀ o, p.2 = some o → o ∈ b.names) → (∀ n ∈ w, n ∈ b.names) →
    (tkeys (trapL b s (keys (distancesOf b s)) m f w)).Nodup ∧ ∀ p ∈ trapL b s (keys (distancesOf b s)) m f w, p.1 ∈ b.names ∧ ∀ o, p.2 = some o → o ∈ b.names
  | 0, f, w, h1, h2, _ => ⟨h1, h2⟩
  | m + 1, f, w, h1, h2, h3 => by
    unfold trapL
    cases z : w.getLast? with
    | none => exact ⟨h1, h2⟩
    | some n =>
      have hn : n ∈ b.names := h3 n (List.mem_of_getLast? z)
      have hd : ∀ x ∈ w.dropLast, x ∈ b.names := fun x hx => h3 x (List.dropLast_subset w hx)
      dsimp only
      by_cases q : n ∈ tkeys f
      · rw [if_pos q]
        exact trapL_inv ok m f _ h1 h2 hd
      · rw [if_neg q]
        have nd' : ∀ o, (tkeys (f ++ [(n, o)])).Nodup := fun o => by
          rw [tkeys_app, List.nodup_append]
          exact ⟨h1, by simp, fun a ha c hc z => q (by rw [List.mem_singleton] at hc; rw [← hc, ← z]; exact ha)⟩
        by_cases q1 : (b.fl n).side = 1
        · rw [if_pos q1]
          refine trapL_inv ok m _ _ (nd' _) (fun p hp => ?_) fun x hx => ?_
          · rcases List.mem_append.mp hp with h | h
            · exact h2 p h
            · rw [List.mem_singleton] at h
              subst h
              exact ⟨hn, fun o e => nomatch e⟩
          · rcases List.mem_append.mp hx with h | h
            · exact hd x h
            · exact (away_in ok hn h).1
        · rw [if_neg q1]
          refine trapL_inv ok m _ _ (nd' _) (fun p hp => ?_) fun x hx => ?_
          · rcases List.mem_append.mp hp with h | h
            · exact h2 p h
            · rw [List.mem_singleton] at h
              subst h
              refine ⟨hn, fun o e => ?_⟩
              exact (away_in ok hn (List.mem_of_mem_head? e)).1
          · rcases List.mem_append.mp hx with h | h
            · exact hd x h
            · exact (away_in ok hn (List.mem_of_mem_take h)).1
theorem trapOf_ok {b : Bd} (ok : OkB b) (s : List Mv) : TrOk b (trapOf b s) := by
  obtain ⟨h1, h2⟩ := trapL_inv ok (s := s) 1000 [] [b.start] (by simp [tkeys]) (fun p hp => by cases hp) (fun n hn => by rw [List.mem_singleton] at hn; rw [hn]; exact ok.start)
  refine ⟨fun p hp => (h2 p hp).1, fun p hp => (h2 p hp).2, ?_, h1⟩
  have := nodup_len (l := tkeys (trapOf b s)) (m := b.names) h1 fun a ha => by
    obtain ⟨p, hp, e⟩ := List.mem_map.mp ha
    rw [← e]
    exact (h2 p hp).1
  rw [names_len] at this
  unfold tkeys at this
  rw [List.length_map] at this
  have := ok.len
  unfold trapOf at this ⊢
  unfold trapOf at *
  omega
/-! ### how many sets -/
def layB : Nat → Nat
  | 0 => 1 | 1 => 6 | 2 => 30 | 3 => 120 | 4 => 360 | 5 => 720 | 6 => 720 | _ => 0
def layC : Nat → Nat
  | 0 => 1 | 1 => 7 | 2 => 37 | 3 => 157 | 4 => 517 | 5 => 1237 | _ => 1957
theorem lay_step : ∀ k, k ≤ 6 → (6 - k) * layB k ≤ layB (k + 1) ∧ layC k + layB (k + 1) ≤ layC (k + 1) ∧ layC k ≤ 1957 := by
  intro k hk
  match k, hk with
  | 0, _ => decide
  | 1, _ => decide
  | 2, _ => decide
  | 3, _ => decide
  | 4, _ => decide
  | 5, _ => decide
  | 6, _ => decide
  | n + 7, h => omega
theorem flat_len2 {mv : List Mv} (hm : mv.length ≤ 6) {k : Nat} : ∀ l : List (List Mv), (∀ s ∈ l, (∀ m ∈ s, m ∈ mv) ∧ s.length = k ∧ (k = 0 ∨ ∃ m, s.getLast? = some m ∧ k ≤ mv.idxOf m + 1)) → (l.flatMap (nxt mv)).length ≤ (6 - k) * l.length
  | [], _ => by simp
  | s :: r, h => by
    have h1 : (nxt mv s).length ≤ 6 - k := by
      obtain ⟨g1, g2, g3⟩ := h s (List.mem_cons_self ..)
      unfold nxt
      rw [List.length_map, List.length_drop]
      rcases g3 with g3 | ⟨m, e, g3⟩
      · rw [g3]; omega
      · rw [e]; show mv.length - (mv.idxOf m + 1) ≤ 6 - k; omega
    have h2 := flat_len2 hm r fun s hs => h s (List.mem_cons_of_mem _ hs)
    rw [List.flatMap_cons, List.length_append, List.length_cons, Nat.mul_succ]
    omega
theorem sets_small {b : Bd} (ok : OkB b) : (allSets b).length ≤ 1957 := by
  have key : ∀ (n k : Nat) (f l : List (List Mv)), SInv b.moves k f l → k ≤ 7 → l.length ≤ layB k → f.length ≤ layC k → (setsL b.moves n f l).length ≤ 1957 := by
    intro n
    induction n with
    | zero =>
      intro k f l h hk h1 h2
      unfold setsL
      by_cases z : k ≤ 6
      · have := (lay_step k z).2.2; omega
      · have e : k = 7 := by omega
        rw [e] at h2
        exact h2
    | succ n ih =>
      intro k f l h hk h1 h2
      unfold setsL
      cases z : l.isEmpty with
      | true =>
        rw [if_pos rfl]
        by_cases z : k ≤ 6
        · have := (lay_step k z).2.2; omega
        · have e : k = 7 := by omega
          rw [e] at h2
          exact h2
      | false =>
        rw [if_neg Bool.false_ne_true]
        have hne : l ≠ [] := fun e => by rw [e] at z; cases z
        have hk6 := h.small ok.mnd ok.mvl hne
        obtain ⟨g1, g2, _⟩ := lay_step k hk6
        have h3 := flat_len2 ok.mvl l h.hl
        have h4 : (6 - k) * l.length ≤ (6 - k) * layB k := Nat.mul_le_mul_left _ h1
        refine ih (k + 1) _ _ (h.next ok.mnd ok.mvl) (by omega) (by omega) ?_
        rw [List.length_append]
        omega
  exact key 1000 0 _ _ (SInv.start ok.mnd ok.mvl) (by omega) (by simp [layB]) (by simp [layC])
/-! ### against -/
def againstS (b : Bd) (f : List Tr) (s : List Mv) : List Tr := if f.any (holdsAg b s) then f else f ++ [trapOf b s]
def against (b : Bd) (sets : List (List Mv)) : List Tr := sets.foldl (againstS b) []
theorem against_ok {b : Bd} (ok : OkB b) (sets : List (List Mv)) : (∀ t ∈ against b sets, TrOk b t) ∧ (against b sets).length ≤ sets.length := by
  have go : ∀ (l : List (List Mv)) (f : List Tr), (∀ t ∈ f, TrOk b t) → (∀ t ∈ l.foldl (againstS b) f, TrOk b t) ∧ (l.foldl (againstS b) f).length ≤ f.length + l.length := by
    intro l
    induction l with
    | nil => intro f h; exact ⟨h, by simp⟩
    | cons s r ih =>
      intro f h
      have hf' : ∀ t ∈ againstS b f s, TrOk b t := fun t ht => by
        unfold againstS at ht
        split at ht
        · exact h t ht
        · rcases List.mem_append.mp ht with z | z
          · exact h t z
          · rw [List.mem_singleton] at z; rw [z]; exact trapOf_ok ok s
      have hl' : (againstS b f s).length ≤ f.length + 1 := by
        unfold againstS
        split
        · omega
        · rw [List.length_append]; simp
      obtain ⟨h1, h2⟩ := ih _ hf'
      rw [List.length_cons]
      exact ⟨h1, by show (r.foldl (againstS b) (againstS b f s)).length ≤ _; omega⟩
  have := go sets [] (fun t ht => by cases ht)
  exact ⟨this.1, by have h := this.2; simp only [List.length_nil, Nat.zero_add] at h; exact h⟩
section
variable {b : Bd} (ok : OkB b) {st : Sto} (hw : Wf st)
include ok hw
theorem turn_against {sets : List (List Mv)} {f : List Tr} (hf : ∀ t ∈ f, TrOk b t) (hfl : f.length < 100000) {s : List Mv} (hs : ∀ m ∈ s, m ∈ b.moves) (hn : b.start ∉ keys (distancesOf b s)) (x3 x4 : Option Val) :
    forStep (tgN 3) L_against_0 (eS s) [some (.d (eB b)), some (.d (eSs sets)), some (.cell st.length), x3, x4] (st ++ [some (.lst (f.map eTr))]) =
      .nx [some (.d (eB b)), some (.d (eSs sets)), some (.cell st.length), some (.d (eS s)), x4] (st ++ [some (.lst ((againstS b f s).map eTr))]) := by
  have wd := hw.lst (f.map eTr)
  have e1 : dLc (iSeq (dVar 2)) (tgN 4) tYs (dCallG G_holds_against (dCons (dVar 0) (dCons (dVar 3) (dCons (dVar 4) dNil)))) [4] false [some (.d (eB b)), some (.d (eSs sets)), some (.cell st.length), some (.d (eS s)), x4] (st ++ [some (.lst (f.map eTr))]) =
      .ok (.d (.lst ((f.filter fun _ => true).map fun t => .bl (holdsAg b s t)))) (st ++ [some (.lst (f.map eTr))]) := by
    rw [ev_dLcC (enc := eTr) (k := st.length) (E := fun t => [some (.d (eB b)), some (.d (eSs sets)), some (.cell st.length), some (.d (eS s)), some (.d (eTr t))]) (p := fun _ => true) f (fun t => .bl (holdsAg b s t)) ?h1 (last_get _ _) wd hfl ?h2 ?h3 ?h4]
    case h1 => simp [ev_srcC (last_get st (some (.lst (f.map eTr))))]
    case h2 => intro a ha; simp
    case h3 => intro a ha c w; simp
    case h4 =>
      intro a ha _ c w
      have h := G_against_ok ok w (hf a ha) (ok.sok hs)
      simp only [ev_call, ev_cons, ev_var, List.getElem?_cons_succ, List.getElem?_cons_zero, optV_some, bind_ok, ev_bnd, ev_nil, ev_ret, h]
  rw [filter_tt] at e1
  simp only [forStep, ev_tgN, L_against_0, List.set_cons_succ, List.set_cons_zero, ev_sIf, ev_not, ev_vT, ev_dB, ev_cons, e1, bind_ok, ev_bnd, ev_nil, ev_ret, ev_any, ev_asB, bindE_ok]
  unfold againstS
  cases q : f.any (holdsAg b s) with
  | true => simp only [Bool.not_true, Bool.false_eq_true, if_false, ev_sPass, if_true]
  | false =>
    simp only [Bool.not_false, if_true, ev_sExpr, ev_mth, ev_var, List.getElem?_cons_succ, List.getElem?_cons_zero, optV_some, bind_ok, ev_bnd, ev_isL (last_get _ _), ev_cons, ev_call, ev_nil, ev_ret, G_trap_of_ok ok (ok.sok hs) wd hn]
    rw [ev_append _ (last_get _ _) (by rw [List.length_map]; omega), last_set]
    simp only [bindE_ok, Bool.false_eq_true, if_false, List.map_append]
    rfl
theorem G_against_fn_ok {sets : List (List Mv)} (hs : ∀ s ∈ sets, (∀ m ∈ s, m ∈ b.moves) ∧ b.start ∉ keys (distancesOf b s)) (hl : sets.length < 100000) : G_against [.d (eB b), .d (eSs sets)] [] st = .ok (.d (eTs (against b sets))) st := by
  simp only [G_against, ev_def2, dS_against]
  have loop : ∀ (l : List (List Mv)) (f : List Tr) (x3 x4 : Option Val), (∀ s ∈ l, (∀ m ∈ s, m ∈ b.moves) ∧ b.start ∉ keys (distancesOf b s)) → (∀ t ∈ f, TrOk b t) → f.length + l.length < 100000 →
      ∃ y3, forL (tgN 3) L_against_0 (l.map eS) [some (.d (eB b)), some (.d (eSs sets)), some (.cell st.length), x3, x4] (st ++ [some (.lst (f.map eTr))]) =
        .nx [some (.d (eB b)), some (.d (eSs sets)), some (.cell st.length), y3, x4] (st ++ [some (.lst ((l.foldl (againstS b) f).map eTr))]) := by
    intro l
    induction l with
    | nil => intro f x3 x4 _ _ _; exact ⟨x3, rfl⟩
    | cons s r ih =>
      intro f x3 x4 hs hf hn
      rw [List.length_cons] at hn
      obtain ⟨h1, h2⟩ := hs s (List.mem_cons_self ..)
      have h3 := turn_against ok hw (sets := sets) hf (by omega) h1 h2 x3 x4
      have hf' : ∀ t ∈ againstS b f s, TrOk b t := fun t ht => by
        unfold againstS at ht
        split at ht
        · exact hf t ht
        · rcases List.mem_append.mp ht with h | h
          · exact hf t h
          · rw [List.mem_singleton] at h; rw [h]; exact trapOf_ok ok s
      have hl' : (againstS b f s).length ≤ f.length + 1 := by
        unfold againstS
        split
        · omega
        · rw [List.length_append]; simp
      obtain ⟨y3, h4⟩ := ih (againstS b f s) (some (.d (eS s))) x4 (fun s hs' => hs s (List.mem_cons_of_mem _ hs')) hf' (by omega)
      refine ⟨y3, ?_⟩
      rw [List.map_cons]
      show (match forStep (tgN 3) L_against_0 (eS s) _ _ with | .nx e' s' => forL (tgN 3) L_against_0 (r.map eS) e' s' | .ct e' s' => forL (tgN 3) L_against_0 (r.map eS) e' s' | .bk e' s' => .nx e' s' | r => r) = _
      rw [h3]
      exact h4
  obtain ⟨y3, h⟩ := loop sets [] none none hs (fun t ht => by cases ht) (by simpa using hl)
  simp only [List.map_nil] at h
  simp only [Nat.reduceSub, List.reduceReplicate, ev_sSeq, ev_sSet, ev_lstL, ev_nil, bind_ok, ev_bnd, ev_plains_nil, List.length_nil]
  rw [ev_cap _ _ _ (by decide)]
  simp only [ev_newCell, bindE_ok, List.set_cons_succ, List.set_cons_zero, seq_nx, ev_sSeq, ev_forS, ev_iSeq, ev_var, List.getElem?_cons_succ, List.getElem?_cons_zero, optV_some, bind_ok, src_eSs, ev_forR, h, ev_sFrz, ev_frzC]
  rw [frzV_lst _ _ _ _ _ (last_get _ _)]
  simp [trunc_app hw]
  rfl
/-! ### the cheapest one -/
def bestS (b : Bd) (best : Option (List Mv)) (s : List Mv) : Option (List Mv) := match best with
  | none => some s
  | some t => if costOf b s < costOf b t then some s else some t
def bestOf (b : Bd) : Option (List Mv) := (goodSets b).foldl (bestS b) none
def eOS (o : Option (List Mv)) : D := match o with
  | none => .non
  | some s => eS s
omit hw in
theorem best_spec : ∀ (l : List (List Mv)) (o : Option (List Mv)), (∀ s, l.foldl (bestS b) o = some s → s ∈ l ∨ o = some s) ∧ (∀ s, l.foldl (bestS b) o = some s → (∀ t ∈ l, costOf b s ≤ costOf b t) ∧ ∀ t, o = some t → costOf b s ≤ costOf b t) ∧ (l.foldl (bestS b) o = none → l = [] ∧ o = none)
  | [], o => ⟨fun s h => .inr h, fun s h => ⟨fun t ht => (by cases ht), fun t ht => by rw [show o = some s from h] at ht; cases ht; exact Int.le_refl _⟩, fun h => ⟨rfl, h⟩⟩
  | x :: r, o => by
    obtain ⟨h1, h2, h3⟩ := best_spec r (bestS b o x)
    have hb : ∃ y, bestS b o x = some y ∧ (y = x ∨ o = some y) ∧ costOf b y ≤ costOf b x ∧ ∀ t, o = some t → costOf b y ≤ costOf b t := by
      unfold bestS
      cases o with
      | none => exact ⟨x, rfl, .inl rfl, Int.le_refl _, fun t e => nomatch e⟩
      | some t =>
        by_cases q : costOf b x < costOf b t
        · exact ⟨x, if_pos q, .inl rfl, Int.le_refl _, fun t' e => by cases e; omega⟩
        · exact ⟨t, if_neg q, .inr rfl, by omega, fun t' e => by cases e; exact Int.le_refl _⟩
    obtain ⟨y, e, hy, hy1, hy2⟩ := hb
    refine ⟨fun s h => ?_, fun s h => ?_, fun h => ?_⟩
    · rcases h1 s h with z | z
      · exact .inl (List.mem_cons_of_mem _ z)
      · rw [e] at z
        cases z
        rcases hy with rfl | z
        · exact .inl (List.mem_cons_self ..)
        · exact .inr z
    · obtain ⟨g1, g2⟩ := h2 s h
      have := g2 y e
      refine ⟨fun t ht => ?_, fun t ht => ?_⟩
      · rcases List.mem_cons.mp ht with z | z
        · rw [z]; omega
        · exact g1 t z
      · have := hy2 t ht
        omega
    · have := (h3 h).2
      rw [e] at this
      cases this
omit hw in
theorem goodSets_sub : ∀ s ∈ goodSets b, ((∀ m ∈ s, m ∈ b.moves) ∧ s.length ≤ 6) ∧ wins b s = true := fun s hs => ⟨allSets_sub ok s (List.mem_filter.mp hs).1, (List.mem_filter.mp hs).2⟩
theorem turn_cheapest {s : List Mv} (hs : ∀ m ∈ s, m ∈ b.moves) (hsl : s.length ≤ 6) {o : Option (List Mv)} (ho : ∀ t, o = some t → (∀ m ∈ t, m ∈ b.moves) ∧ t.length ≤ 6) (x2 x3 x4 : Option Val) :
    forStep (tgN 2) L_cheapest_0 (eS s) [some (.d (eB b)), some (.d (eOS o)), x2, x3, x4] st = .nx [some (.d (eB b)), some (.d (eOS (bestS b o s))), some (.d (eS s)), x3, x4] st := by
  simp only [forStep, ev_tgN, L_cheapest_0, List.set_cons_succ, List.set_cons_zero]
  cases o with
  | none => simp [eOS, bestS]
  | some t =>
    obtain ⟨h1, h2⟩ := ho t rfl
    have e : isNonD (eS t) = false := rfl
    simp [eOS, e, G_cost_ok ok hw hs (by omega), G_cost_ok ok hw h1 (by omega), bestS]
    by_cases q : costOf b s < costOf b t <;> simp [q]
theorem best_loop : ∀ (l : List (List Mv)) (o : Option (List Mv)) (x2 x3 x4 : Option Val), (∀ s ∈ l, (∀ m ∈ s, m ∈ b.moves) ∧ s.length ≤ 6) → (∀ t, o = some t → (∀ m ∈ t, m ∈ b.moves) ∧ t.length ≤ 6) →
    ∃ y2, forL (tgN 2) L_cheapest_0 (l.map eS) [some (.d (eB b)), some (.d (eOS o)), x2, x3, x4] st = .nx [some (.d (eB b)), some (.d (eOS (l.foldl (bestS b) o))), y2, x3, x4] st
  | [], o, x2, x3, x4, _, _ => ⟨x2, rfl⟩
  | s :: r, o, x2, x3, x4, hl, ho => by
    obtain ⟨h1, h2⟩ := hl s (List.mem_cons_self ..)
    have h3 := turn_cheapest ok hw h1 h2 ho x2 x3 x4
    have ho' : ∀ t, bestS b o s = some t → (∀ m ∈ t, m ∈ b.moves) ∧ t.length ≤ 6 := fun t e => by
      unfold bestS at e
      cases o with
      | none => cases e; exact ⟨h1, h2⟩
      | some u =>
        dsimp only at e
        split at e
        · cases e; exact ⟨h1, h2⟩
        · cases e; exact ho _ rfl
    obtain ⟨y2, h4⟩ := best_loop r (bestS b o s) (some (.d (eS s))) x3 x4 (fun s hs => hl s (List.mem_cons_of_mem _ hs)) ho'
    refine ⟨y2, ?_⟩
    rw [List.map_cons]
    show (match forStep (tgN 2) L_cheapest_0 (eS s) _ _ with | .nx e' s' => forL (tgN 2) L_cheapest_0 (r.map eS) e' s' | .ct e' s' => forL (tgN 2) L_cheapest_0 (r.map eS) e' s' | .bk e' s' => .nx e' s' | r => r) = _
    rw [h3]
    exact h4
def cheapest (b : Bd) : D := match bestOf b with
  | none => eNo (against b (allSets b))
  | some t => eFo t (distancesOf b t) (against b ((allSets b).filter fun s => decide (costOf b s < costOf b t)))
theorem G_cheapest_ok : G_cheapest [.d (eB b)] [] st = .ok (.d (cheapest b)) st := by
  simp only [G_cheapest, ev_def1, dS_cheapest]
  have hlen := sets_len ok hw
  have hg : ∀ s ∈ goodSets b, (∀ m ∈ s, m ∈ b.moves) ∧ s.length ≤ 6 := fun s hs => (goodSets_sub ok s hs).1
  obtain ⟨y2, hl⟩ := best_loop ok hw (goodSets b) none none none none hg (fun t e => nomatch e)
  obtain ⟨s1, s2, s3⟩ := best_spec ok (goodSets b) none
  have hbest : (goodSets b).foldl (bestS b) none = bestOf b := rfl
  rw [hbest] at hl s1 s2 s3
  have e0 : ixD (.tup [eSs (goodSets b), eSs (badSets b)]) (.int 0) st = .ok (eSs (goodSets b)) st := by
    rw [ev_ixT, atD_zero]
    rfl
  simp only [Nat.reduceSub, List.reduceReplicate, ev_sSeq, ev_sExpr, ev_call, ev_cons, ev_var, List.getElem?_cons_succ, List.getElem?_cons_zero, optV_some, bind_ok, ev_bnd, ev_nil, ev_ret, G_cb_ok ok hw, bindE_ok, seq_nx, ev_sSet, ev_con, List.set_cons_succ, List.set_cons_zero, ev_forS, ev_iSeq, ev_ix, G_parted_ok ok hw, ev_opD, ev_snap, e0, src_eSs, ev_forR]
  rw [show eOS none = D.non from rfl] at hl
  rw [hl]
  simp only [seq_nx, ev_sSeq, ev_sIf, ev_cmp, ev_var, List.getElem?_cons_succ, List.getElem?_cons_zero, optV_some, bind_ok, ev_bnd, ev_con, ev_opB, ev_snap, ev_isN, bindE_ok]
  unfold cheapest
  cases q : bestOf b with
  | none =>
    have hempty := (s3 q).1
    have hall : ∀ s ∈ allSets b, (∀ m ∈ s, m ∈ b.moves) ∧ b.start ∉ keys (distancesOf b s) := fun s hs => by
      refine ⟨(allSets_sub ok s hs).1, fun z => ?_⟩
      have : s ∈ goodSets b := List.mem_filter.mpr ⟨hs, decide_eq_true z⟩
      rw [hempty] at this
      cases this
    have hsz : (allSets b).length < 100000 := by
      have := sets_small ok
      omega
    have e1 := G_against_fn_ok ok hw hall hsz
    have e2 : D.lst ((allSets b).map eS) = eSs (allSets b) := rfl
    have hts := against_ok ok (allSets b)
    simp only [eOS, isNonD_non, if_true, ev_sRet, ev_makeE, ev_cons, ev_call, ev_var, List.getElem?_cons_succ, List.getElem?_cons_zero, optV_some, bind_ok, ev_bnd, ev_nil, ev_ret, G_sets_ok ok hw, e2, e1, mk_none hw (fun t ht => ⟨(hts.1 t ht).nd, (hts.1 t ht).len⟩) (by have := hts.2; omega), bindE_ok, seq_rt, fin_rt, trunc_self hw]
  | some t =>
    have ht : (∀ m ∈ t, m ∈ b.moves) ∧ t.length ≤ 6 := hg t ((s1 t q).resolve_right fun e => nomatch e)
    have e4 : isNonD (eS t) = false := rfl
    have hflt := List.length_filter_le (fun s => decide (costOf b s < costOf b t)) (allSets b)
    have e1 : dLc (iSeq (dCallG G_all_sets (dCons (dVar 0) dNil))) (tgN 4) (tCmp .lt (dCallG G_cost_of (dCons (dVar 0) (dCons (dVar 4) dNil))) (dCallG G_cost_of (dCons (dVar 0) (dCons (dVar 1) dNil)))) (dVar 4) [4] false [some (.d (eB b)), some (.d (eS t)), y2, none, none] st =
        .ok (.d (eSs ((allSets b).filter fun s => decide (costOf b s < costOf b t)))) st := by
      rw [ev_dLc (enc := eS) (E := fun s => [some (.d (eB b)), some (.d (eS t)), y2, none, some (.d (eS s))]) (p := fun s => decide (costOf b s < costOf b t)) (allSets b) eS ?h1 hw (by omega) ?h2 ?h3 ?h4]
      case h1 => simp [G_sets_ok ok hw]
      case h2 => intro a ha; simp
      case h3 =>
        intro a ha s' w
        obtain ⟨h1, h2⟩ := allSets_sub ok a ha
        simp [G_cost_ok ok w h1 (by omega), G_cost_ok ok w ht.1 (by omega)]
      case h4 => intro a ha _ s' w; simp
      rfl
    have hall : ∀ s ∈ (allSets b).filter fun s => decide (costOf b s < costOf b t), (∀ m ∈ s, m ∈ b.moves) ∧ b.start ∉ keys (distancesOf b s) := fun s hs => by
      obtain ⟨h1, h2⟩ := List.mem_filter.mp hs
      refine ⟨(allSets_sub ok s h1).1, fun z => ?_⟩
      have h3 : s ∈ goodSets b := List.mem_filter.mpr ⟨h1, decide_eq_true z⟩
      have := (s2 t q).1 s h3
      have := of_decide_eq_true h2
      omega
    have hsz : ((allSets b).filter fun s => decide (costOf b s < costOf b t)).length < 100000 := by
      have := sets_small ok
      omega
    have e5 := G_against_fn_ok ok hw hall hsz
    have hts := against_ok ok ((allSets b).filter fun s => decide (costOf b s < costOf b t))
    have hd := dist_end ok (s := t)
    have hdl := hd.size ok
    have hol := ok.len
    simp only [eOS, e4, Bool.false_eq_true, if_false, ev_sPass, seq_nx, ev_sSeq, ev_sSet, e1, bindE_ok, List.set_cons_succ, List.set_cons_zero, ev_sRet, ev_makeE, ev_cons, ev_call, ev_var, List.getElem?_cons_succ, List.getElem?_cons_zero, optV_some, bind_ok, ev_bnd, ev_nil, ev_ret, G_dist_ok ok (ok.sok ht.1) hw, e5, mk_forb hw hd.nd (by omega) (fun t ht => ⟨(hts.1 t ht).nd, (hts.1 t ht).len⟩) (by have := hts.2; omega), fin_rt, trunc_self hw]
end
end Pg
/-! FpL -/
/-! FpL: boards looked at by a Bool; displays; what laws need besides. -/
namespace Pg
open PySem Fb
def okFl (b : Bd) (n : Str) : Bool := isNm n && ((b.fl n).aims.all fun a => decide (a ∈ b.names)) && decide (b.fl n).aims.Nodup && (decide ((b.fl n).side = 1) || decide ((b.fl n).side = 2))
def okBb (b : Bd) : Bool := decide b.names.Nodup && b.names.all (okFl b) && decide (b.start ∈ b.names) && decide b.moves.Nodup && (b.moves.all fun m => decide (m.1 ∈ b.names) && decide (m.2 ∈ (b.fl m.1).aims)) &&
  (b.fees.all fun p => decide (1 ≤ p.2) && decide (p.2 ≤ 9)) && decide (b.lines.length ≤ 8) && decide (b.fees.length ≤ 6)
theorem okBb_ok {b : Bd} (h : okBb b = true) : OkB b := by
  unfold okBb okFl at h
  simp only [Bool.and_eq_true, List.all_eq_true, decide_eq_true_eq, Bool.or_eq_true] at h
  obtain ⟨⟨⟨⟨⟨⟨⟨h1, h2⟩, h3⟩, h4⟩, h5⟩, h6⟩, h7⟩, h8⟩ := h
  exact ⟨h1, fun n hn => (h2 n hn).1.1.1, fun n hn => (h2 n hn).1.1.2, fun n hn => (h2 n hn).1.2, fun n hn => (h2 n hn).2, h3, h4, h5, h6, h7, h8⟩
/-! ### displays -/
theorem evalP_ok {e : DEnv} : ∀ (prs : List (DE × DE)) (kvs : List (D × D)) (s : Sto), prs.length = kvs.length → (∀ (i : Nat) (p : DE × DE) (q : D × D), prs[i]? = some p → kvs[i]? = some q → p.1 e s = .ok (.d q.1) s ∧ p.2 e s = .ok (.d q.2) s) → evalP prs e s = .ok kvs s
  | [], [], s, _, _ => rfl
  | [], _ :: _, s, h, _ => by cases h
  | _ :: _, [], s, h, _ => by cases h
  | p :: r, q :: t, s, h, H => by
    obtain ⟨h1, h2⟩ := H 0 p q rfl rfl
    have ih := evalP_ok r t s (by simpa using h) fun i p q hp hq => H (i + 1) p q (by simpa using hp) (by simpa using hq)
    show bnd (p.1 e) _ s = _
    rw [ev_bnd, h1, bind_ok, ev_bnd, ev_plain, bind_ok, ev_bnd, h2, bind_ok, ev_bnd, ev_plain, bind_ok, ev_bnd, ih]
    rfl
theorem put_len (k v : D) (l : List (D × D)) : (put k v l).length ≤ l.length + 1 := by
  unfold put
  split
  · rw [List.length_map]; omega
  · simp
theorem storeP_ok (t : Bool) (s : Sto) : ∀ (kvs l : List (D × D)), l.length + kvs.length ≤ 1000 → (∀ p ∈ kvs, isKey t p.1 = true) → storeP s.length kvs (s ++ [some (.dic t l)]) = .ok () (s ++ [some (.dic t (putAll l kvs))])
  | [], l, _, _ => rfl
  | p :: r, l, hn, hk => by
    rw [List.length_cons] at hn
    have := put_len p.1 p.2 l
    show bnd (putC s.length p.1 p.2) _ _ = _
    rw [ev_bnd, putC_at _ _ _ _ _ (hk p (List.mem_cons_self ..)) (by omega), bind_ok, storeP_ok t s r _ (by omega) fun q hq => hk q (List.mem_cons_of_mem _ hq)]
    rfl
theorem ev_disp {t : Bool} {prs : List (DE × DE)} {e : DEnv} {s : Sto} (hw : Wf s) (kvs : List (D × D)) (hl : prs.length = kvs.length) (hn : kvs.length ≤ 1000) (hk : ∀ p ∈ kvs, isKey t p.1 = true)
    (H : ∀ (i : Nat) (p : DE × DE) (q : D × D), prs[i]? = some p → kvs[i]? = some q → p.1 e (s ++ [some (.dic t [])]) = .ok (.d q.1) (s ++ [some (.dic t [])]) ∧ p.2 e (s ++ [some (.dic t [])]) = .ok (.d q.2) (s ++ [some (.dic t [])])) : dDisp t prs false e s = .ok (.d (.dic t (putAll [] kvs))) s := by
  unfold dDisp
  rw [ev_bnd, ev_newCell, bind_ok]
  show bnd (evalP prs e) (fun ps => bnd (storeP s.length ps) fun _ => dropTo s.length) (s ++ [some (.dic t [])]) = _
  rw [ev_bnd, evalP_ok prs kvs _ hl H, bind_ok, ev_bnd, storeP_ok t s kvs [] (by simpa using hn) hk, bind_ok]
  exact dropTo_dic hw _ _
@[simp] theorem ev_dVals (k : Bool) (f : DE) (e : DEnv) (s : Sto) : dVals k f e s = (f e s).bind fun v => bnd (snap v) fun x => valsL k x := rfl
@[simp] theorem ev_valsL (k t : Bool) (l : List (D × D)) (s : Sto) : valsL k (.dic t l) s = mkL k (l.map (·.2)) s := rfl
theorem forL_cons (g : DG) (p : DS) (d : D) (r : List D) (e : DEnv) (s : Sto) : forL g p (d :: r) e s = match forStep g p d e s with
    | .nx e' s' => forL g p r e' s'
    | .ct e' s' => forL g p r e' s'
    | .bk e' s' => .nx e' s'
    | r => r := rfl
theorem forL_nx {g : DG} {p : DS} {d : D} {r : List D} {e e' : DEnv} {s s' : Sto} (h : forStep g p d e s = .nx e' s') : forL g p (d :: r) e s = forL g p r e' s' := by rw [forL_cons, h]
theorem forL_rt {g : DG} {p : DS} {d : D} {r : List D} {e : DEnv} {v : Val} {s s' : Sto} (h : forStep g p d e s = .rt v s') : forL g p (d :: r) e s = .rt v s' := by rw [forL_cons, h]
end Pg
/-! FbEx -/
/-! FbEx: the reckoning lemmas in one name each. -/
namespace Pg
open PySem Fb
theorem if_tt {α : Type} (a b : α) : (if true = true then a else b) = a := rfl
theorem if_ft {α : Type} (a b : α) : (if false = true then a else b) = b := rfl
theorem ev_eqI (a b : Int) (s : Sto) : cmpD .eq (.int a) (.int b) s = .ok (decide (a = b)) s := by rw [ev_eq _ _ _ (okQ_int _ _), eqD_int]
theorem ev_neI (a b : Int) (s : Sto) : cmpD .ne (.int a) (.int b) s = .ok (!decide (a = b)) s := by rw [ev_ne _ _ _ (okQ_int _ _), eqD_int]
theorem okQ_bl (a b : Bool) : okQ (.bl a) (.bl b) = true := by unfold okQ; rfl
theorem ev_eqB (a b : Bool) (s : Sto) : cmpD .eq (.bl a) (.bl b) s = .ok (a == b) s := by rw [ev_eq _ _ _ (okQ_bl _ _)]; cases a <;> cases b <;> rfl
theorem ev_neB (a b : Bool) (s : Sto) : cmpD .ne (.bl a) (.bl b) s = .ok (!(a == b)) s := by rw [ev_ne _ _ _ (okQ_bl _ _)]; cases a <;> cases b <;> rfl
theorem ev_tIfE (t u v : DT) (e : DEnv) (s : Sto) : tIfE t u v e s = (t e s).bind fun b => if b then u e else v e := rfl
theorem ev_iRange3 (a : DA) (e : DEnv) (s : Sto) : iRange3 a e s = (a e s).bind rng3 := rfl
theorem ev_max2 (i j : Int) (s : Sto) : bMax2 [.d (.int i), .d (.int j)] s = .ok (.d (.int (if j > i then j else i))) s := rfl
theorem ev_min2 (i j : Int) (s : Sto) : bMin2 [.d (.int i), .d (.int j)] s = .ok (.d (.int (if j < i then j else i))) s := rfl
theorem ev_sLPut (fo fi fv : DE) (e : DEnv) (s : Sto) : sLPut fo fi fv e s = (bnd (fv e) (fun v => bnd (fo e) fun o => bnd (fi e) fun i => lputI o i v) s).bindE e fun _ s => .nx e s := rfl
theorem ev_dAddL (f g : DE) (e : DEnv) (s : Sto) : dAddL f g e s = (f e s).bind fun v => bnd (g e) fun u => bnd (snap v) fun x => bnd (snap u) fun y => addL2 x y := rfl
theorem ev_addL2 (a b : List D) (s : Sto) (h : a.length + b.length < 1000000) : addL2 (.lst a) (.lst b) s = .ok (.cell s.length) (s ++ [some (.lst (a ++ b))]) := by
  show (if _ then _ else _ : M Val) s = _
  rw [if_pos h]; rfl
theorem ev_inT_nm (x : Str) (l : List Str) (s : Sto) (hx : Nm x) (hl : ∀ y ∈ l, Nm y) : inD (eN x) (.tup (l.map eN)) s = .ok (decide (x ∈ l)) s := by
  rw [ev_inT _ _ _ (isData_eN hx) (all_names hl), inL_names]
theorem ev_inL_nm (x : Str) (l : List Str) (s : Sto) (hx : Nm x) (hl : ∀ y ∈ l, Nm y) : inD (eN x) (.lst (l.map eN)) s = .ok (decide (x ∈ l)) s := by
  rw [ev_inL _ _ _ (isData_eN hx) (all_names hl), inL_names]
theorem ev_cap0 {α : Type} (m : M α) (s : Sto) : cap 0 m s = m s := rfl
theorem ev_cap1 {α : Type} (m : M α) (s : Sto) : cap (0 + 1) m s = m s := rfl
theorem ev_cap2 {α : Type} (m : M α) (s : Sto) : cap (0 + 1 + 1) m s = m s := rfl
theorem ev_cap3 {α : Type} (m : M α) (s : Sto) : cap (0 + 1 + 1 + 1) m s = m s := rfl
theorem ev_cap4 {α : Type} (m : M α) (s : Sto) : cap (0 + 1 + 1 + 1 + 1) m s = m s := rfl
theorem ev_cap5 {α : Type} (m : M α) (s : Sto) : cap (0 + 1 + 1 + 1 + 1 + 1) m s = m s := rfl
theorem ev_cap6 {α : Type} (m : M α) (s : Sto) : cap (0 + 1 + 1 + 1 + 1 + 1 + 1) m s = m s := rfl
theorem ev_cap7 {α : Type} (m : M α) (s : Sto) : cap (0 + 1 + 1 + 1 + 1 + 1 + 1 + 1) m s = m s := rfl
/-- straight reckoning -/
theorem evs : type_of% (And.intro (And.intro @ev_makeK @ev_makeE) (And.intro (And.intro (And.intro @ev_cap0 (And.intro @ev_cap1 @ev_cap2)) (And.intro (And.intro @ev_cap3 @ev_cap4) (And.intro @ev_cap5 (And.intro @ev_cap6 @ev_cap7)))) (And.intro (And.intro (And.intro @if_true.{1} @if_false.{1}) (And.intro @decide_true @decide_false)) (And.intro (And.intro (And.intro (And.intro (And.intro (And.intro (And.intro @ev_ret @ev_thr) (And.intro @ev_bnd (And.intro @bind_ok @bind_exc))) (And.intro (And.intro @ev_bndE (And.intro @bindE_ok @bindE_exc)) (And.intro @seq_nx (And.intro @seq_rt @seq_exc)))) (And.intro (And.intro (And.intro @ite_app @ite_appS) (And.intro @optV_some (And.intro @ev_var @ev_con))) (And.intro (And.intro @ev_nil (And.intro @ev_cons @ev_snap)) (And.intro @ev_plain (And.intro @ev_plains_nil @ev_plains_cons))))) (And.intro (And.intro (And.intro (And.intro @ev_cap @ev_tup) (And.intro @ev_lst (And.intro @ev_lstL @ev_newCell))) (And.intro (And.intro @ev_dic0 (And.intro @ev_opD @ev_bin)) (And.intro @ev_addI (And.intro @ev_subI @ev_neg)))) (And.intro (And.intro (And.intro @ev_negI @ev_opB) (And.intro @ev_cmp (And.intro @ev_lt @ev_le))) (And.intro (And.intro @ev_gt (And.intro @ev_ge @ev_isN)) (And.intro @ev_notN (And.intro @ev_isB @ev_notB)))))) (And.intro (And.intro (And.intro (And.intro (And.intro @ev_inn @ev_nin) (And.intro @isNonD_non (And.intro @isNonD_str @isNonD_int))) (And.intro (And.intro @isNonD_bl (And.intro @isNonD_tup @isNonD_lst)) (And.intro @isNonD_dic (And.intro @isNonD_ins @ev_tV)))) (And.intro (And.intro (And.intro @ev_asB @ev_vT) (And.intro @ev_not (And.intro @ev_and @ev_or))) (And.intro (And.intro @ev_if (And.intro @ev_chain @ev_tYs)) (And.intro @ev_vAnd (And.intro @ev_vOr @ev_vNot))))) (And.intro (And.intro (And.intro (And.intro @ev_ix @ev_optM) (And.intro @ev_ixL (And.intro @ev_ixT @ev_fld))) (And.intro (And.intro @ev_oNone (And.intro @ev_oSome @ev_oInt)) (And.intro @ev_sl2 (And.intro @ev_slL @ev_slT)))) (And.intro (And.intro (And.intro @ev_slA (And.intro @ev_rev @ev_revL)) (And.intro @ev_dB (And.intro @ev_bLen @ev_lenL))) (And.intro (And.intro @ev_lenT (And.intro @ev_lenA @ev_lenD)) (And.intro @ev_all (And.intro @ev_any @ev_abs))))))) (And.intro (And.intro (And.intro (And.intro (And.intro (And.intro @ev_mkT @ev_mkF) (And.intro @ev_bList (And.intro @ev_listL @ev_listT))) (And.intro (And.intro @ev_listA (And.intro @ev_listK @ev_bTuple)) (And.intro @ev_tupL (And.intro @ev_tupT @ev_call)))) (And.intro (And.intro (And.intro @ev_sPass @ev_sSeq) (And.intro @ev_sSet (And.intro @ev_sExpr @ev_sRet))) (And.intro (And.intro @ev_sRetN (And.intro @ev_sIf @ev_sPar)) (And.intro @ev_setAll_nil (And.intro @ev_setAll_cons @ev_sInc))))) (And.intro (And.intro (And.intro (And.intro @ev_incX @ev_sUnp) (And.intro @ev_unpX (And.intro @ev_sFrz @ev_frzD))) (And.intro (And.intro @ev_frzC (And.intro @fin_nx @fin_rt)) (And.intro @fin_exc (And.intro @fin_rtC @ev_def1)))) (And.intro (And.intro (And.intro @ev_def2 (And.intro @ev_def3 @ev_def4)) (And.intro @ev_iSeq (And.intro @ev_srcL @ev_srcT))) (And.intro (And.intro @ev_srcA (And.intro @ev_srcD @ev_iItems)) (And.intro @ev_itemsV (And.intro @ev_iRange1 @ev_iRange2)))))) (And.intro (And.intro (And.intro (And.intro (And.intro @ev_rng1 @ev_rng2) (And.intro @ev_iEnum (And.intro @ev_enumL @ev_tgN))) (And.intro (And.intro @ev_tgT (And.intro @ev_wipe_nil @ev_wipe_cons)) (And.intro @ev_forS (And.intro @ev_forR @ev_sPut)))) (And.intro (And.intro (And.intro @ev_mth @ev_star) (And.intro @ev_starL (And.intro @ev_starT @ev_eqI))) (And.intro (And.intro @ev_neI (And.intro @ev_eqB @ev_neB)) (And.intro @ev_tIfE (And.intro @ev_iRange3 @ev_max2))))) (And.intro (And.intro (And.intro (And.intro @ev_min2 @ev_sLPut) (And.intro @ev_dAddL (And.intro @if_tt @if_ft))) (And.intro (And.intro @Bool.not_true (And.intro @Bool.not_false @Bool.true_and)) (And.intro @Bool.false_and (And.intro @Bool.and_true @Bool.and_false)))) (And.intro (And.intro (And.intro @List.getElem?_cons_succ.{0} (And.intro @List.getElem?_cons_zero.{0} @List.set_cons_succ.{0})) (And.intro @List.set_cons_zero.{0} (And.intro @List.length_cons.{0} @List.length_nil.{0}))) (And.intro (And.intro @List.zip_cons_cons.{0,0} (And.intro @List.zip_nil_left.{0,0} @List.map_cons.{0,0})) (And.intro @List.map_nil.{0,0} (And.intro @List.replicate_zero.{0} @List.replicate_succ.{0}))))))))))) := (And.intro (And.intro @ev_makeK @ev_makeE) (And.intro (And.intro (And.intro @ev_cap0 (And.intro @ev_cap1 @ev_cap2)) (And.intro (And.intro @ev_cap3 @ev_cap4) (And.intro @ev_cap5 (And.intro @ev_cap6 @ev_cap7)))) (And.intro (And.intro (And.intro @if_true.{1} @if_false.{1}) (And.intro @decide_true @decide_false)) (And.intro (And.intro (And.intro (And.intro (And.intro (And.intro (And.intro @ev_ret @ev_thr) (And.intro @ev_bnd (And.intro @bind_ok @bind_exc))) (And.intro (And.intro @ev_bndE (And.intro @bindE_ok @bindE_exc)) (And.intro @seq_nx (And.intro @seq_rt @seq_exc)))) (And.intro (And.intro (And.intro @ite_app @ite_appS) (And.intro @optV_some (And.intro @ev_var @ev_con))) (And.intro (And.intro @ev_nil (And.intro @ev_cons @ev_snap)) (And.intro @ev_plain (And.intro @ev_plains_nil @ev_plains_cons))))) (And.intro (And.intro (And.intro (And.intro @ev_cap @ev_tup) (And.intro @ev_lst (And.intro @ev_lstL @ev_newCell))) (And.intro (And.intro @ev_dic0 (And.intro @ev_opD @ev_bin)) (And.intro @ev_addI (And.intro @ev_subI @ev_neg)))) (And.intro (And.intro (And.intro @ev_negI @ev_opB) (And.intro @ev_cmp (And.intro @ev_lt @ev_le))) (And.intro (And.intro @ev_gt (And.intro @ev_ge @ev_isN)) (And.intro @ev_notN (And.intro @ev_isB @ev_notB)))))) (And.intro (And.intro (And.intro (And.intro (And.intro @ev_inn @ev_nin) (And.intro @isNonD_non (And.intro @isNonD_str @isNonD_int))) (And.intro (And.intro @isNonD_bl (And.intro @isNonD_tup @isNonD_lst)) (And.intro @isNonD_dic (And.intro @isNonD_ins @ev_tV)))) (And.intro (And.intro (And.intro @ev_asB @ev_vT) (And.intro @ev_not (And.intro @ev_and @ev_or))) (And.intro (And.intro @ev_if (And.intro @ev_chain @ev_tYs)) (And.intro @ev_vAnd (And.intro @ev_vOr @ev_vNot))))) (And.intro (And.intro (And.intro (And.intro @ev_ix @ev_optM) (And.intro @ev_ixL (And.intro @ev_ixT @ev_fld))) (And.intro (And.intro @ev_oNone (And.intro @ev_oSome @ev_oInt)) (And.intro @ev_sl2 (And.intro @ev_slL @ev_slT)))) (And.intro (And.intro (And.intro @ev_slA (And.intro @ev_rev @ev_revL)) (And.intro @ev_dB (And.intro @ev_bLen @ev_lenL))) (And.intro (And.intro @ev_lenT (And.intro @ev_lenA @ev_lenD)) (And.intro @ev_all (And.intro @ev_any @ev_abs))))))) (And.intro (And.intro (And.intro (And.intro (And.intro (And.intro @ev_mkT @ev_mkF) (And.intro @ev_bList (And.intro @ev_listL @ev_listT))) (And.intro (And.intro @ev_listA (And.intro @ev_listK @ev_bTuple)) (And.intro @ev_tupL (And.intro @ev_tupT @ev_call)))) (And.intro (And.intro (And.intro @ev_sPass @ev_sSeq) (And.intro @ev_sSet (And.intro @ev_sExpr @ev_sRet))) (And.intro (And.intro @ev_sRetN (And.intro @ev_sIf @ev_sPar)) (And.intro @ev_setAll_nil (And.intro @ev_setAll_cons @ev_sInc))))) (And.intro (And.intro (And.intro (And.intro @ev_incX @ev_sUnp) (And.intro @ev_unpX (And.intro @ev_sFrz @ev_frzD))) (And.intro (And.intro @ev_frzC (And.intro @fin_nx @fin_rt)) (And.intro @fin_exc (And.intro @fin_rtC @ev_def1)))) (And.intro (And.intro (And.intro @ev_def2 (And.intro @ev_def3 @ev_def4)) (And.intro @ev_iSeq (And.intro @ev_srcL @ev_srcT))) (And.intro (And.intro @ev_srcA (And.intro @ev_srcD @ev_iItems)) (And.intro @ev_itemsV (And.intro @ev_iRange1 @ev_iRange2)))))) (And.intro (And.intro (And.intro (And.intro (And.intro @ev_rng1 @ev_rng2) (And.intro @ev_iEnum (And.intro @ev_enumL @ev_tgN))) (And.intro (And.intro @ev_tgT (And.intro @ev_wipe_nil @ev_wipe_cons)) (And.intro @ev_forS (And.intro @ev_forR @ev_sPut)))) (And.intro (And.intro (And.intro @ev_mth @ev_star) (And.intro @ev_starL (And.intro @ev_starT @ev_eqI))) (And.intro (And.intro @ev_neI (And.intro @ev_eqB @ev_neB)) (And.intro @ev_tIfE (And.intro @ev_iRange3 @ev_max2))))) (And.intro (And.intro (And.intro (And.intro @ev_min2 @ev_sLPut) (And.intro @ev_dAddL (And.intro @if_tt @if_ft))) (And.intro (And.intro @Bool.not_true (And.intro @Bool.not_false @Bool.true_and)) (And.intro @Bool.false_and (And.intro @Bool.and_true @Bool.and_false)))) (And.intro (And.intro (And.intro @List.getElem?_cons_succ.{0} (And.intro @List.getElem?_cons_zero.{0} @List.set_cons_succ.{0})) (And.intro @List.set_cons_zero.{0} (And.intro @List.length_cons.{0} @List.length_nil.{0}))) (And.intro (And.intro @List.zip_cons_cons.{0,0} (And.intro @List.zip_nil_left.{0,0} @List.map_cons.{0,0})) (And.intro @List.map_nil.{0,0} (And.intro @List.replicate_zero.{0} @List.replicate_succ.{0})))))))))))
end Pg
/-! FmE -/
/-! FmE: how many sets of at most four moves; pairs of sets. -/
namespace Pg
open PySem Fb
def layB4 : Nat → Nat
  | 0 => 1 | 1 => 4 | 2 => 12 | 3 => 24 | 4 => 24 | _ => 0
def layC4 : Nat → Nat
  | 0 => 1 | 1 => 5 | 2 => 17 | 3 => 41 | _ => 65
theorem lay_step4 : ∀ k, k ≤ 6 → (4 - k) * layB4 k ≤ layB4 (k + 1) ∧ layC4 k + layB4 (k + 1) ≤ layC4 (k + 1) ∧ layC4 k ≤ 65 := by
  intro k hk
  match k, hk with
  | 0, _ => decide
  | 1, _ => decide
  | 2, _ => decide
  | 3, _ => decide
  | 4, _ => decide
  | 5, _ => decide
  | 6, _ => decide
  | n + 7, h => omega
theorem flat_len4 {mv : List Mv} (hm : mv.length ≤ 4) {k : Nat} : ∀ l : List (List Mv), (∀ s ∈ l, (∀ m ∈ s, m ∈ mv) ∧ s.length = k ∧ (k = 0 ∨ ∃ m, s.getLast? = some m ∧ k ≤ mv.idxOf m + 1)) → (l.flatMap (nxt mv)).length ≤ (4 - k) * l.length
  | [], _ => by simp
  | s :: r, h => by
    have h1 : (nxt mv s).length ≤ 4 - k := by
      obtain ⟨g1, g2, g3⟩ := h s (List.mem_cons_self ..)
      unfold nxt
      rw [List.length_map, List.length_drop]
      rcases g3 with g3 | ⟨m, e, g3⟩
      · rw [g3]; omega
      · rw [e]; show mv.length - (mv.idxOf m + 1) ≤ 4 - k; omega
    have h2 := flat_len4 hm r fun s hs => h s (List.mem_cons_of_mem _ hs)
    rw [List.flatMap_cons, List.length_append, List.length_cons, Nat.mul_succ]
    omega
theorem sets_small4 {b : Bd} (ok : OkB b) (h4 : b.fees.length ≤ 4) : (allSets b).length ≤ 65 := by
  have hm4 : b.moves.length ≤ 4 := by unfold Bd.moves; rw [List.length_map]; exact h4
  have key : ∀ (n k : Nat) (f l : List (List Mv)), SInv b.moves k f l → k ≤ 7 → l.length ≤ layB4 k → f.length ≤ layC4 k → (setsL b.moves n f l).length ≤ 65 := by
    intro n
    induction n with
    | zero =>
      intro k f l h hk h1 h2
      unfold setsL
      by_cases z : k ≤ 6
      · have := (lay_step4 k z).2.2; omega
      · have e : k = 7 := by omega
        rw [e] at h2
        exact h2
    | succ n ih =>
      intro k f l h hk h1 h2
      unfold setsL
      cases z : l.isEmpty with
      | true =>
        rw [if_pos rfl]
        by_cases z : k ≤ 6
        · have := (lay_step4 k z).2.2; omega
        · have e : k = 7 := by omega
          rw [e] at h2
          exact h2
      | false =>
        rw [if_neg Bool.false_ne_true]
        have hne : l ≠ [] := fun e => by rw [e] at z; cases z
        have hk6 := h.small ok.mnd ok.mvl hne
        obtain ⟨g1, g2, _⟩ := lay_step4 k hk6
        have h3 := flat_len4 hm4 l h.hl
        have h4 : (4 - k) * l.length ≤ (4 - k) * layB4 k := Nat.mul_le_mul_left _ h1
        refine ih (k + 1) _ _ (h.next ok.mnd ok.mvl) (by omega) (by omega) ?_
        rw [List.length_append]
        omega
  exact key 1000 0 _ _ (SInv.start ok.mnd ok.mvl) (by omega) (by simp [layB4]) (by simp [layC4])
/-! ### pairs of a set and one with a move more -/
def nextTo (s t : List Mv) : Bool := decide (t.length = s.length + 1)
def inside (s t : List Mv) : Bool := s.all fun m => decide (m ∈ t)
def pairsOf (lo up : List (List Mv)) : List (List Mv × List Mv) := lo.flatMap fun s => (up.filter fun t => nextTo s t && inside s t).map fun t => (s, t)
def eP (p : List Mv × List Mv) : D := .tup [eS p.1, eS p.2]
theorem pairs_filter (lo up : List (List Mv)) : (lo.flatMap fun s => (up.filter fun t => nextTo s t).map fun t => (s, t)).filter (fun p => inside p.1 p.2) = pairsOf lo up := by
  unfold pairsOf
  induction lo with
  | nil => rfl
  | cons s r ih =>
    rw [List.flatMap_cons, List.flatMap_cons, List.filter_append, ih, List.filter_map, List.filter_filter]
    congr 2
    exact List.filter_congr fun t _ => by rw [Bool.and_comm]; rfl
theorem flat_bound {α β : Type} (f : α → List β) (n : Nat) (h : ∀ a, (f a).length ≤ n) : ∀ l : List α, (l.flatMap f).length ≤ n * l.length
  | [] => by simp
  | a :: r => by
    have := h a
    have := flat_bound f n h r
    rw [List.flatMap_cons, List.length_append, List.length_cons, Nat.mul_succ]
    omega
end Pg
/-! FpN -/
/-! FpN: comprehensions with two fors; breaches and rescues. -/
namespace Pg
open PySem Fb
section
variable {α β : Type} {g g1 : DG} {t1 : DT} {el : DE} {e : DEnv} {src1 : DI} {vs1 : List Nat} {E : α → DEnv} {E1 : α → β → DEnv} {p : α → β → Bool} {enc : α → D} {enc1 : β → D} {L : α → List β} {s : Sto}
theorem lcL_two (fd : α → β → D) (hw : Wf s) (n : Nat) : ∀ (l : List α) (acc : List D), acc.length + n * l.length ≤ 1000000 → (∀ a ∈ l, (L a).length ≤ n) →
    (∀ a ∈ l, g (enc a) e = some (E a)) → (∀ a ∈ l, ∀ s', Wf s' → src1 (E a) s' = .ok (.its ((L a).map enc1)) s') → (∀ a ∈ l, ∀ b ∈ L a, g1 (enc1 b) (wipeD (E a) vs1) = some (E1 a b)) → (∀ a ∈ l, ∀ b ∈ L a, ∀ s', Wf s' → t1 (E1 a b) s' = .ok (p a b) s') → (∀ a ∈ l, ∀ b ∈ L a, ∀ s', Wf s' → el (E1 a b) s' = .ok (.d (fd a b)) s') →
    lcL g tYs (addLL src1 g1 t1 el vs1 s.length) e (l.map enc) (s ++ [some (.lst acc)]) = .ok () (s ++ [some (.lst (acc ++ l.flatMap fun a => ((L a).filter (p a)).map (fd a)))])
  | [], acc, _, _, _, _, _, _, _ => by simp [lcL]
  | a :: r, acc, hn, hL, hg, hs, hg1, ht, he => by
    rw [List.length_cons, Nat.mul_succ] at hn
    have m := List.mem_cons_self (a := a) (l := r)
    have h1 := hg a m
    have hla := hL a m
    have h2 := hs a m _ (hw.lst acc)
    have inner := lcL_list (g := g1) (t := t1) (el := el) (e := wipeD (E a) vs1) (E := E1 a) (p := p a) (enc := enc1) (fd a) hw (L a) acc (by omega) (hg1 a m) (ht a m) (fun b hb _ => he a m b hb)
    have hfl : ((L a).filter (p a)).length ≤ n := Nat.le_trans (List.length_filter_le _ _) hla
    have ih := lcL_two fd hw n r (acc ++ ((L a).filter (p a)).map (fd a)) (by rw [List.length_append, List.length_map]; omega) (fun a ha => hL a (List.mem_cons_of_mem _ ha)) (fun a ha => hg a (List.mem_cons_of_mem _ ha)) (fun a ha => hs a (List.mem_cons_of_mem _ ha)) (fun a ha => hg1 a (List.mem_cons_of_mem _ ha)) (fun a ha => ht a (List.mem_cons_of_mem _ ha)) (fun a ha => he a (List.mem_cons_of_mem _ ha))
    rw [List.map_cons]
    show (match g (enc a) e with | none => stk | some e1 => bnd (noX (tYs e1)) fun b => if b then bnd (addLL src1 g1 t1 el vs1 s.length e1) fun _ => lcL g tYs (addLL src1 g1 t1 el vs1 s.length) e (r.map enc) else lcL g tYs (addLL src1 g1 t1 el vs1 s.length) e (r.map enc) : M Unit) _ = _
    rw [h1]
    show bnd (noX (tYs (E a))) _ _ = _
    rw [ev_bnd, noX_ok (ev_tYs (E a) _), bind_ok, if_pos rfl]
    show bnd (bnd (noX (src1 (E a))) fun s1 => lcD g1 t1 (addL el s.length) (fuelOf s1) s1 0 (wipeD (E a) vs1)) _ _ = _
    rw [ev_bnd, ev_bnd, noX_ok h2, bind_ok, lcD_its g1 t1 (addL el s.length) (wipeD (E a) vs1) ((L a).map enc1) _ 0 _ (by show ((L a).map enc1).length < ((L a).map enc1).length + 1; omega)]
    rw [show List.drop 0 ((L a).map enc1) = (L a).map enc1 from rfl, inner, bind_ok, ih, List.flatMap_cons, List.append_assoc]
theorem ev_dLc2 {src : DI} {vs : List Nat} (l : List α) (fd : α → β → D) (n : Nat) (hsr : src e s = .ok (.its (l.map enc)) s) (hw : Wf s) (hn : n * l.length ≤ 1000000) (hL : ∀ a ∈ l, (L a).length ≤ n)
    (hg : ∀ a ∈ l, g (enc a) (wipeD e vs) = some (E a)) (hs : ∀ a ∈ l, ∀ s', Wf s' → src1 (E a) s' = .ok (.its ((L a).map enc1)) s') (hg1 : ∀ a ∈ l, ∀ b ∈ L a, g1 (enc1 b) (wipeD (E a) vs1) = some (E1 a b)) (ht : ∀ a ∈ l, ∀ b ∈ L a, ∀ s', Wf s' → t1 (E1 a b) s' = .ok (p a b) s') (he : ∀ a ∈ l, ∀ b ∈ L a, ∀ s', Wf s' → el (E1 a b) s' = .ok (.d (fd a b)) s') :
    dLc2 src g tYs src1 g1 t1 el vs vs1 false e s = .ok (.d (.lst (l.flatMap fun a => ((L a).filter (p a)).map (fd a)))) s := by
  unfold dLc2
  rw [comp_its hsr, lcL_two fd hw n l [] (by simpa using hn) hL hg hs hg1 ht he, bind_ok, List.nil_append]
  exact dropL_at hw _
end
/-! ### one more -/
theorem len_eS (s : List Mv) (st : Sto) : lenD (eS s) st = .ok (.d (.int (s.length : Nat))) st := by
  unfold eS
  rw [ev_lenT, List.length_map]
theorem isData_eS {s : List Mv} (hs : SOk s) : isData 8 (eS s) = true := by
  unfold eS
  rw [isData_tup, all_moves hs]
theorem in_eS {s : List Mv} (hs : SOk s) {m : Mv} (hm : Nm m.1 ∧ Nm m.2) (st : Sto) : inD (eM m) (eS s) st = .ok (decide (m ∈ s)) st := by
  have h1 := isData_eM (n := 6) (m := m) hm
  unfold eS
  rw [ev_inT _ _ _ h1 (all_moves hs), inL_moves]
section
variable {lo up : List (List Mv)} (hlo : ∀ s ∈ lo, SOk s ∧ s.length ≤ 6) (hup : ∀ s ∈ up, SOk s) (n1 : lo.length ≤ 1000) (n2 : up.length ≤ 1000) {st : Sto} (hw : Wf st)
include hlo hup n1 n2 hw
theorem G_one_more_ok : G_one_more [.d (eSs lo), .d (eSs up)] [] st = .ok (.d (.lst ((pairsOf lo up).map eP))) st := by
  have h1 : dLc2 (iSeq (dVar 0)) (tgN 3) (tYs) (iSeq (dVar 1)) (tgN 4) (tCmp .eq (dB bLen (dCons (dVar 4) (dNil))) (dBin .add (dB bLen (dCons (dVar 3) (dNil))) (dCon (.int 1)))) (dTup (dCons (dVar 3) (dCons (dVar 4) (dNil)))) [3, 4] [4] false [some (.d (eSs lo)), some (.d (eSs up)), none, none, none, none] st =
      .ok (.d (.lst ((lo.flatMap fun s => (up.filter fun t => nextTo s t).map fun t => (s, t)).map eP))) st := by
    rw [ev_dLc2 (enc := eS) (enc1 := eS) (L := fun _ => up) (E := fun s => [some (.d (eSs lo)), some (.d (eSs up)), none, some (.d (eS s)), none, none]) (E1 := fun s t => [some (.d (eSs lo)), some (.d (eSs up)), none, some (.d (eS s)), some (.d (eS t)), none]) (p := nextTo) lo (fun s t => eP (s, t)) 1000 (by simp only [evs, src_eSs]) hw (by omega) (fun _ _ => n2) (fun s _ => by simp only [evs]) (fun s _ s' _ => by simp only [evs, src_eSs]) (fun s _ t _ => by simp only [evs]) (fun s _ t _ s' _ => by
      simp only [evs, len_eS]
      have : (((t.length : Nat) : Int) = (s.length : Nat) + 1) = (t.length = s.length + 1) := propext (by omega)
      unfold nextTo
      simp only [this]) (fun s _ t _ s' _ => by simp only [evs]; rfl)]
    congr 3
    induction lo with
    | nil => rfl
    | cons s r ih =>
      rw [List.flatMap_cons, List.flatMap_cons, List.map_append, List.map_map, ih (fun s hs => hlo s (List.mem_cons_of_mem _ hs)) (by rw [List.length_cons] at n1; omega)]
      rfl
  obtain ⟨prs, eprs⟩ : ∃ prs, prs = lo.flatMap fun s => (up.filter fun t => nextTo s t).map fun t => (s, t) := ⟨_, rfl⟩
  have hpr : ∀ p ∈ prs, p.1 ∈ lo ∧ p.2 ∈ up := fun p hp => by
    rw [eprs] at hp
    obtain ⟨s, hs, h⟩ := List.mem_flatMap.mp hp
    obtain ⟨t, ht, e⟩ := List.mem_map.mp h
    rw [← e]
    exact ⟨hs, (List.mem_filter.mp ht).1⟩
  have hprl : prs.length ≤ 1000000 := by
    have := flat_bound (fun s => (up.filter fun t => nextTo s t).map fun t => (s, t)) 1000 (fun s => by rw [List.length_map]; exact Nat.le_trans (List.length_filter_le _ _) n2) lo
    rw [← eprs] at this
    omega
  rw [← eprs] at h1
  have h2 : dLc (iSeq (dVar 2)) (tgT [3, 4]) (vT (dB bAll (dCons (dLc (iSeq (dVar 3)) (tgN 5) (tYs) (tV (tCmp .inn (dVar 5) (dVar 4))) [5] false) (dNil)))) (dTup (dCons (dVar 3) (dCons (dVar 4) (dNil)))) [3, 4] false [some (.d (eSs lo)), some (.d (eSs up)), some (.d (.lst (prs.map eP))), none, none, none] st =
      .ok (.d (.lst ((prs.filter fun p => inside p.1 p.2).map eP))) st := by
    refine ev_dLc (enc := eP) (E := fun p => [some (.d (eSs lo)), some (.d (eSs up)), some (.d (.lst (prs.map eP))), some (.d (eS p.1)), some (.d (eS p.2)), none]) (p := fun p => inside p.1 p.2) prs eP ?_ hw hprl (fun p _ => ?_) (fun p hp s' w => ?_) (fun p _ _ s' _ => ?_)
    · simp only [evs]
    · unfold eP
      rw [ev_tgT _ _ _ rfl]
      rfl
    · obtain ⟨k1, k2⟩ := hpr p hp
      have inner : dLc (iSeq (dVar 3)) (tgN 5) (tYs) (tV (tCmp .inn (dVar 5) (dVar 4))) [5] false [some (.d (eSs lo)), some (.d (eSs up)), some (.d (.lst (prs.map eP))), some (.d (eS p.1)), some (.d (eS p.2)), none] s' = .ok (.d (.lst (p.1.map fun m => .bl (decide (m ∈ p.2))))) s' := by
        rw [ev_dLc (enc := eM) (E := fun m => [some (.d (eSs lo)), some (.d (eSs up)), some (.d (.lst (prs.map eP))), some (.d (eS p.1)), some (.d (eS p.2)), some (.d (eM m))]) (p := fun _ => true) p.1 (fun m => .bl (decide (m ∈ p.2))) (by simp only [evs, src_eS]) w (by have := (hlo _ k1).2; omega) (fun m _ => by simp only [evs]) (fun m _ s2 _ => by simp only [evs]) (fun m hm _ s2 _ => by simp only [evs, in_eS (hup _ k2) ((hlo _ k1).1 m hm)]), filter_tt]
      simp only [evs, inner]
      rfl
    · simp only [evs]
      rfl
  rw [eprs, pairs_filter] at h2
  rw [eprs] at h1
  simp only [G_one_more, dS_one_more, evs, Nat.reduceSub, List.reduceReplicate, h1, h2, trunc_self hw]
end
section
variable {b : Bd} (ok : OkB b) (h4 : b.fees.length ≤ 4) {st : Sto} (hw : Wf st)
include ok h4 hw
theorem part_small : ((∀ s ∈ goodSets b, SOk s ∧ s.length ≤ 6) ∧ (goodSets b).length ≤ 1000) ∧ ((∀ s ∈ badSets b, SOk s ∧ s.length ≤ 6) ∧ (badSets b).length ≤ 1000) := by
  have h := sets_small4 ok h4
  have k : ∀ p : List Mv → Bool, (∀ s ∈ (allSets b).filter p, SOk s ∧ s.length ≤ 6) ∧ ((allSets b).filter p).length ≤ 1000 := fun p => ⟨fun s hs => by
    have h1 := allSets_sub ok s (List.mem_filter.mp hs).1
    exact ⟨ok.sok h1.1, h1.2⟩, Nat.le_trans (List.length_filter_le _ _) (by omega)⟩
  exact ⟨k _, k _⟩
theorem G_breaches_ok : G_breaches [.d (eB b)] [] st = .ok (.d (.lst ((pairsOf (goodSets b) (badSets b)).map eP))) st := by
  obtain ⟨⟨g1, g2⟩, ⟨b1, b2⟩⟩ := part_small ok h4 hw
  have h1 := G_cb_ok ok hw
  have h2 := G_parted_ok ok hw
  have h3 := G_one_more_ok g1 (fun s hs => (b1 s hs).1) g2 b2 hw
  have e : ∀ env st, unpX env [1, 2] (.tup [eSs (goodSets b), eSs (badSets b)]) st = .nx (setAll env ([1, 2].zip [.d (eSs (goodSets b)), .d (eSs (badSets b))])) st := fun env st => by rw [ev_unpX _ _ _ _ rfl]; rfl
  simp only [G_breaches, dS_breaches, evs, Nat.reduceSub, List.reduceReplicate, h1, h2, e, h3, trunc_self hw]
theorem G_rescues_ok : G_rescues [.d (eB b)] [] st = .ok (.d (.lst ((pairsOf (badSets b) (goodSets b)).map eP))) st := by
  obtain ⟨⟨g1, g2⟩, ⟨b1, b2⟩⟩ := part_small ok h4 hw
  have h1 := G_cb_ok ok hw
  have h2 := G_parted_ok ok hw
  have h3 := G_one_more_ok b1 (fun s hs => (g1 s hs).1) b2 g2 hw
  have e : ∀ env st, unpX env [1, 2] (.tup [eSs (goodSets b), eSs (badSets b)]) st = .nx (setAll env ([1, 2].zip [.d (eSs (goodSets b)), .d (eSs (badSets b))])) st := fun env st => by rw [ev_unpX _ _ _ _ rfl]; rfl
  simp only [G_rescues, dS_rescues, evs, Nat.reduceSub, List.reduceReplicate, h1, h2, e, h3, trunc_self hw]
end
end Pg
/-! FrS -/
/-! FrS: stores that hold the state of draws. -/
namespace Pg
open PySem Fb
theorem atD_nat {l : List D} {i : Int} {x : D} (h0 : 0 ≤ i) (h : l[i.toNat]? = some x) : atD l i = some x := by
  unfold atD L2.atI L2.ixN
  rw [if_pos h0]
  have : i.toNat < l.length := (List.getElem?_eq_some_iff.mp h).1
  rw [if_pos (by omega)]
  exact h
theorem atD_ex {l : List D} {i : Int} (h0 : 0 ≤ i) (h : i < l.length) : ∃ x, atD l i = some x ∧ x ∈ l := by
  have h1 : i.toNat < l.length := by omega
  exact ⟨l[i.toNat], atD_nat h0 (List.getElem?_eq_getElem h1), List.getElem_mem h1⟩
theorem ev_ixA (l : List Int) (i : Int) (s : Sto) : ixD (.arr l) (.int i) s = optM (atD (l.map .int) i) s := rfl
theorem snap_mid (j : Sto) (l : List D) (r : Sto) : snap (.cell j.length) (j ++ some (.lst l) :: r) = .ok (.lst l) (j ++ some (.lst l) :: r) := by
  unfold snap
  simp only [mid_get]
theorem snap_midD (j : Sto) (t : Bool) (l : List (D × D)) (r : Sto) : snap (.cell j.length) (j ++ some (.dic t l) :: r) = .ok (.dic t l) (j ++ some (.dic t l) :: r) := by
  unfold snap
  simp only [mid_get]
theorem ev_lput {s : Sto} {k : Nat} {l : List D} {i : Int} {y : D} {m : Nat} (h : s[k]? = some (some (.lst l))) (hi : L2.ixN l.length i = some m) : lputI (.cell k) (.d (.int i)) (.d y) s = .ok (.d .non) (s.set k (some (.lst (l.set m y)))) := by
  show celL k _ s = _
  rw [ev_celL _ h, hi]
  rfl
theorem trunc_eq {s : Sto} {n : Nat} (h : Wf s) (hn : s.length = n) : trunc n s = s := by rw [← hn]; exact trunc_self h
theorem len_mid {α : Type} (j r : List α) (c d : α) : (j ++ c :: r).length = (j ++ d :: r).length := by simp
theorem ev_mulS (a b : Int) (s : Sto) (h : b.natAbs < 2 ^ 64) : binD .mul (.int a) (.int b) s = .ok (.int (a * b)) s := ev_mulI s a b (.inr h)
theorem ev_divS (s : Sto) (a b : Int) (h : 0 < b) (h2 : b.natAbs < 2 ^ 64) : binD .fdiv (.int a) (.int b) s = .ok (.int (a / b)) s := ev_divI s a b h (Nat.lt_of_lt_of_le h2 (Nat.pow_le_pow_right (by decide) (by decide)))
/-! ### draws -/
/-- stores B i of one length; what G hands out, drawn from the cell k -/
structure Dw (G : Gn) (k : Nat) {ι : Type} (B : ι → Sto) (len : Nat) : Prop where
  hl : ∀ i, (B i).length = len
  wf : ∀ i, Wf (B i)
  next : ∀ (i : ι) (r : Sto), r.all plainC = true → ∀ m : Int, 0 < m → m < 100000 → ∃ v i', 0 ≤ v ∧ v < m ∧ G [.cell k, .d (.int m)] [] (B i ++ r) = .ok (.d (.int v)) (B i' ++ r)
section
variable {G : Gn} {k : Nat} {ι : Type} {B : ι → Sto} {len : Nat}
theorem Dw.app (dw : Dw G k B len) {r : Sto} (hr : r.all plainC = true) : Dw G k (fun i => B i ++ r) (len + r.length) where
  hl := fun i => by rw [List.length_append, dw.hl]
  wf := fun i => Wf.plain (dw.wf i) hr
  next := fun i q hq m hm hm2 => by
    obtain ⟨v, i', h1, h2, h3⟩ := dw.next i (r ++ q) (by rw [List.all_append, hr, hq]; rfl) m hm hm2
    exact ⟨v, i', h1, h2, by rw [List.append_assoc, List.append_assoc]; exact h3⟩
theorem Dw.one (dw : Dw G k B len) (c : Option Cel) (h : plainC c = true := by rfl) : Dw G k (fun i => B i ++ [c]) (len + 1) := dw.app (r := [c]) (by rw [List.all_cons, h]; rfl)
theorem Dw.here (dw : Dw G k B len) (i : ι) {m : Int} (hm : 0 < m) (hm2 : m < 100000) : ∃ v i', 0 ≤ v ∧ v < m ∧ G [.cell k, .d (.int m)] [] (B i) = .ok (.d (.int v)) (B i') := by
  obtain ⟨v, i', h1, h2, h3⟩ := dw.next i [] rfl m hm hm2
  exact ⟨v, i', h1, h2, by simpa using h3⟩
variable (dw : Dw G k B len)
include dw
theorem Dw.get (i : ι) (c : Option Cel) (r : Sto) : (B i ++ c :: r)[len]? = some c := by rw [← dw.hl i]; exact mid_get ..
theorem Dw.set (i : ι) (c d : Option Cel) (r : Sto) : (B i ++ c :: r).set len d = B i ++ d :: r := by rw [← dw.hl i]; exact mid_set ..
theorem Dw.get1 (i : ι) (x c : Option Cel) (r : Sto) : (B i ++ x :: c :: r)[len + 1]? = some c := by
  have := mid_get (B i ++ [x]) c r
  rw [List.length_append, dw.hl, List.append_assoc] at this
  exact this
theorem Dw.set1 (i : ι) (x c d : Option Cel) (r : Sto) : (B i ++ x :: c :: r).set (len + 1) d = B i ++ x :: d :: r := by
  have := mid_set (B i ++ [x]) c d r
  rw [List.length_append, dw.hl, List.append_assoc, List.append_assoc] at this
  exact this
theorem Dw.trunc (i : ι) (r : Sto) : Fb.trunc len (B i ++ r) = B i := by rw [← dw.hl i]; exact trunc_app (dw.wf i) r
theorem Dw.truncS (i : ι) : Fb.trunc len (B i) = B i := by rw [← dw.hl i]; exact trunc_self (dw.wf i)
theorem Dw.snapD (i : ι) (t : Bool) (l : List (D × D)) (r : Sto) : snap (.cell len) (B i ++ some (.dic t l) :: r) = .ok (.dic t l) (B i ++ some (.dic t l) :: r) := by rw [← dw.hl i]; exact snap_midD ..
theorem Dw.snapL (i : ι) (l : List D) (r : Sto) : snap (.cell len) (B i ++ some (.lst l) :: r) = .ok (.lst l) (B i ++ some (.lst l) :: r) := by rw [← dw.hl i]; exact snap_mid ..
/-- a comprehension whose test draws -/
theorem ev_dLcS {α : Type} {g : DG} {t : DT} {el : DE} {e : DEnv} {E : α → DEnv} {enc : α → D} {src : DI} {vs : List Nat} (l : List α) (fd : α → D) (i : ι) (hs : src e (B i) = .ok (.its (l.map enc)) (B i)) (hn : l.length ≤ 1000000)
    (hg : ∀ a ∈ l, g (enc a) (wipeD e vs) = some (E a)) (ht : ∀ a ∈ l, ∀ i acc, ∃ b i', t (E a) (B i ++ [some (.lst acc)]) = .ok b (B i' ++ [some (.lst acc)])) (he : ∀ a ∈ l, ∀ i acc, el (E a) (B i ++ [some (.lst acc)]) = .ok (.d (fd a)) (B i ++ [some (.lst acc)])) :
    ∃ (l' : List α) (i' : ι), l'.Sublist l ∧ dLc src g t el vs false e (B i) = .ok (.d (.lst (l'.map fd))) (B i') := by
  have go : ∀ (l : List α) (acc : List D) (i : ι), acc.length + l.length ≤ 1000000 → (∀ a ∈ l, g (enc a) (wipeD e vs) = some (E a)) → (∀ a ∈ l, ∀ i acc, ∃ b i', t (E a) (B i ++ [some (.lst acc)]) = .ok b (B i' ++ [some (.lst acc)])) → (∀ a ∈ l, ∀ i acc, el (E a) (B i ++ [some (.lst acc)]) = .ok (.d (fd a)) (B i ++ [some (.lst acc)])) →
      ∃ (l' : List α) (i' : ι), l'.Sublist l ∧ lcL g t (addL el len) (wipeD e vs) (l.map enc) (B i ++ [some (.lst acc)]) = .ok () (B i' ++ [some (.lst (acc ++ l'.map fd))]) := by
    intro l
    induction l with
    | nil => intro acc i _ _ _ _; exact ⟨[], i, List.Sublist.refl _, by simp [lcL]⟩
    | cons a r ih =>
      intro acc i hn hg ht he
      rw [List.length_cons] at hn
      have h1 := hg a (List.mem_cons_self ..)
      obtain ⟨b, i1, h2⟩ := ht a (List.mem_cons_self ..) i acc
      have ih := fun acc i h => ih acc i h (fun a ha => hg a (List.mem_cons_of_mem _ ha)) (fun a ha => ht a (List.mem_cons_of_mem _ ha)) (fun a ha => he a (List.mem_cons_of_mem _ ha))
      cases b with
      | false =>
        obtain ⟨l', i', h3, h4⟩ := ih acc i1 (by omega)
        refine ⟨l', i', h3.trans (List.sublist_cons_self ..), ?_⟩
        rw [List.map_cons]
        show (match g (enc a) (wipeD e vs) with | none => stk | some e1 => bnd (noX (t e1)) fun b => if b then bnd (addL el len e1) fun _ => lcL g t (addL el len) (wipeD e vs) (r.map enc) else lcL g t (addL el len) (wipeD e vs) (r.map enc) : M Unit) _ = _
        rw [h1]
        show bnd (noX (t (E a))) _ _ = _
        rw [ev_bnd, noX_ok h2, bind_ok, if_neg Bool.false_ne_true, h4]
      | true =>
        obtain ⟨l', i', h3, h4⟩ := ih (acc ++ [fd a]) i1 (by rw [List.length_append]; simp; omega)
        refine ⟨a :: l', i', h3.cons_cons a, ?_⟩
        rw [List.map_cons]
        show (match g (enc a) (wipeD e vs) with | none => stk | some e1 => bnd (noX (t e1)) fun b => if b then bnd (addL el len e1) fun _ => lcL g t (addL el len) (wipeD e vs) (r.map enc) else lcL g t (addL el len) (wipeD e vs) (r.map enc) : M Unit) _ = _
        rw [h1]
        show bnd (noX (t (E a))) _ _ = _
        have h5 := he a (List.mem_cons_self ..) i1 acc
        have hp : pushC len (fd a) (B i1 ++ [some (.lst acc)]) = .ok () (B i1 ++ [some (.lst (acc ++ [fd a]))]) := by rw [← dw.hl i1]; exact pushC_at _ _ _ (by omega)
        rw [ev_bnd, noX_ok h2, bind_ok, if_pos rfl]
        show bnd (bnd (noX (el (E a))) fun v => bnd (plain v) fun x => pushC len x) _ _ = _
        rw [ev_bnd, ev_bnd, noX_ok h5, bind_ok, ev_bnd, ev_plain, bind_ok, hp, bind_ok, h4]
        simp
  obtain ⟨l', i', h1, h2⟩ := go l [] i (by simpa using hn) hg ht he
  refine ⟨l', i', h1, ?_⟩
  unfold dLc
  rw [comp_its hs, dw.hl i, h2, bind_ok, List.nil_append]
  have := dropL_at (dw.wf i') (l'.map fd)
  rw [dw.hl i'] at this
  exact this
end
end Pg
/-! FrB -/
/-! FrB: draws by a counter; family B of the laws. -/
namespace Pg
open PySem Fb Lb
/-! ### numbers -/
theorem L_cell_at (ns : List Int) (k : Int) (hk : 0 ≤ k) {st : Sto} (hw : Wf st) : ∃ c, G__law_cell_at [.d (.arr ns), .d (.int k)] [] st = .ok (.d (.int c)) st := by
  simp only [G__law_cell_at, dS__law_cell_at, evs, Nat.reduceSub, List.reduceReplicate, ev_ixA]
  by_cases h : k < ns.length
  · obtain ⟨x, h1, h2⟩ := atD_ex (l := ns.map .int) hk (by simpa using h)
    obtain ⟨c, _, rfl⟩ := List.mem_map.mp h2
    exact ⟨c, by simp only [evs, h, h1, trunc_self hw]⟩
  · exact ⟨0, by simp only [evs, h, trunc_self hw]⟩
def primes : List Int := [1000003, 1000033, 1000037, 1000039, 1000081, 1000099, 1000117, 1000121, 1000133, 1000151, 1000159, 1000171, 1000183, 1000187, 1000193, 1000199]
theorem L_draw (c k m : Int) (hk : 0 ≤ k) (hm : 0 < m) {st : Sto} (hw : Wf st) : ∃ r, 0 ≤ r ∧ r < m ∧ G__law_draw [.d (.int c), .d (.int k), .d (.int m)] [] st = .ok (.d (.int r)) st := by
  obtain ⟨x, h1, h2⟩ := atD_ex (l := primes.map .int) (i := k % 16) (by omega) (by show k % 16 < ((primes.map D.int).length : Nat); simp [primes]; omega)
  obtain ⟨p, hp, rfl⟩ := List.mem_map.mp h2
  have hp0 : 0 < p := by
    have : ∀ p ∈ primes, 0 < p := by decide
    exact this p hp
  simp only [primes, List.map_cons, List.map_nil] at h1
  have e1 : ∀ s, binD .mul (.int c) (.int 48271) s = .ok (.int (c * 48271)) s := fun s => ev_mulI s _ _ (.inr (by decide))
  have e2 : ∀ s, binD .mul (.int k) (.int 69621) s = .ok (.int (k * 69621)) s := fun s => ev_mulI s _ _ (.inr (by decide))
  have e3 : ∀ a s, binD .mod (.int a) (.int p) s = .ok (.int (a % p)) s := fun a s => ev_modI s _ _ hp0
  have e4 : ∀ a s, binD .mod (.int a) (.int m) s = .ok (.int (a % m)) s := fun a s => ev_modI s _ _ hm
  have e5 : ∀ a s, binD .mod (.int a) (.int 16) s = .ok (.int (a % 16)) s := fun a s => ev_modI s _ _ (by decide)
  refine ⟨(c * 48271 + k * 69621) % p % m, Int.emod_nonneg _ (by omega), Int.emod_lt_of_pos _ hm, ?_⟩
  simp only [G__law_draw, dS__law_draw, evs, Nat.reduceSub, Nat.reduceAdd, Nat.reduceLT, List.reduceReplicate, e1, e2, e3, e4, e5, h1, trunc_self hw]
theorem pow_loop (s : Sto) (a c m x5 x6 : Option Val) : ∀ (n : Nat) (i : Int) (p : Int) (x4 : Option Val), ∃ y4, forL (tgN 4) L__law_number_0 (upto i n) [a, c, m, some (.d (.int p)), x4, x5, x6] s = .nx [a, c, m, some (.d (.int (p * 1009 ^ n))), y4, x5, x6] s := by
  intro n
  induction n with
  | zero => intro i p x4; exact ⟨x4, by simp only [upto, List.range_zero, List.map_nil, ev_forL_nil, Int.pow_zero, Int.mul_one]⟩
  | succ n ih =>
    intro i p x4
    have e : upto i (n + 1) = .int i :: upto (i + 1) n := by
      unfold upto
      rw [List.range_succ_eq_map, List.map_cons, List.map_map]
      simp only [Int.natCast_zero, Int.add_zero]
      congr 1
      refine List.map_congr_left fun x _ => ?_
      show D.int (i + ((x + 1 : Nat) : Int)) = .int (i + 1 + (x : Int))
      congr 1
      omega
    obtain ⟨y4, h⟩ := ih (i + 1) (p * 1009) (some (.d (.int i)))
    refine ⟨y4, ?_⟩
    rw [e]
    show (match forStep (tgN 4) L__law_number_0 (.int i) _ s with | .nx e' s' => forL (tgN 4) L__law_number_0 (upto (i + 1) n) e' s' | .ct e' s' => forL (tgN 4) L__law_number_0 (upto (i + 1) n) e' s' | .bk e' s' => .nx e' s' | r => r) = _
    have e1 : ∀ s, binD .mul (.int p) (.int 1009) s = .ok (.int (p * 1009)) s := fun s => ev_mulS _ _ _ (by decide)
    have st : forStep (tgN 4) L__law_number_0 (.int i) [a, c, m, some (.d (.int p)), x4, x5, x6] s = .nx [a, c, m, some (.d (.int (p * 1009))), some (.d (.int i)), x5, x6] s := by
      simp only [forStep, L__law_number_0, evs, e1]
    rw [st]
    show forL (tgN 4) L__law_number_0 (upto (i + 1) n) _ s = _
    rw [h, Int.mul_assoc, ← Int.pow_succ']
theorem L_number (c k m : Int) (hk : 0 ≤ k) (hk2 : k ≤ 1000) (hm : 0 < m) {st : Sto} (hw : Wf st) : ∃ r, 0 ≤ r ∧ r < m ∧ G__law_number [.d (.int c), .d (.int k), .d (.int m)] [] st = .ok (.d (.int r)) st := by
  obtain ⟨y4, hl⟩ := pow_loop st (some (.d (.int c))) (some (.d (.int k))) (some (.d (.int m))) none none (k % 24).toNat 0 1 none
  have hp : (0 : Int) < 1009 ^ (k % 24).toNat := Int.pow_pos (by decide)
  have hp2 : ((1009 : Int) ^ (k % 24).toNat).natAbs < 2 ^ 9000 := by
    rw [Int.natAbs_pow]
    have : 1009 ^ (k % 24).toNat ≤ 1009 ^ 24 := Nat.pow_le_pow_right (by decide) (by omega)
    have h2 : 1009 ^ 24 < 2 ^ 9000 := by decide +kernel
    exact Nat.lt_of_le_of_lt this h2
  rw [Int.one_mul] at hl
  have e0 : ∀ s, binD .mod (.int k) (.int 24) s = .ok (.int (k % 24)) s := fun s => ev_modI s _ _ (by decide)
  have e1 : ∀ a s, binD .fdiv (.int a) (.int (1009 ^ (k % 24).toNat)) s = .ok (.int (a / 1009 ^ (k % 24).toNat)) s := fun a s => ev_divI s _ _ hp hp2
  have e2 : ∀ a s, binD .mod (.int a) (.int m) s = .ok (.int (a % m)) s := fun a s => ev_modI s _ _ hm
  have e3 : ∀ a s, binD .mod (.int a) (.int 1009) s = .ok (.int (a % 1009)) s := fun a s => ev_modI s _ _ (by decide)
  have e4 : ∀ a s, binD .mod (.int a) (.int 1000003) s = .ok (.int (a % 1000003)) s := fun a s => ev_modI s _ _ (by decide)
  have e5 : ∀ s, binD .mod (.int k) (.int 9) s = .ok (.int (k % 9)) s := fun s => ev_modI s _ _ (by decide)
  have e6 : ∀ s, binD .mul (.int 977) (.int k) s = .ok (.int (977 * k)) s := fun s => ev_mulI s _ _ (.inl (by decide))
  have e7 : ∀ s, binD .mul (.int 31) (.int k) s = .ok (.int (31 * k)) s := fun s => ev_mulI s _ _ (.inl (by decide))
  have e8 : ∀ s, binD .mul (.int (c % 1000003 + 977 * k)) (.int (c % 1000003 + 31 * k + 5)) s = .ok (.int ((c % 1000003 + 977 * k) * (c % 1000003 + 31 * k + 5))) s := fun s => ev_mulI s _ _ (.inl (by omega))
  have er : ∀ s, rng1 [.d (.int (k % 24))] s = .ok (.its (upto 0 (k % 24).toNat)) s := fun s => ev_rng1 s _ (by omega)
  simp only [G__law_number, dS__law_number, evs, Nat.reduceSub, Nat.reduceAdd, Nat.reduceLT, List.reduceReplicate, e0, er, hl, e1]
  by_cases h : 0 < (c - 10 ^ 18) / 1009 ^ (k % 24).toNat
  · refine ⟨(c - 10 ^ 18) / 1009 ^ (k % 24).toNat % 1009 % m, Int.emod_nonneg _ (by omega), Int.emod_lt_of_pos _ hm, ?_⟩
    simp only [evs, h, e2, e3, trunc_self hw]
  · obtain ⟨r, _, _, hd⟩ := L_draw ((c % 1000003 + 977 * k) * (c % 1000003 + 31 * k + 5)) (k % 9 + 1) 999983 (by omega) (by decide) hw
    refine ⟨r % m, Int.emod_nonneg _ (by omega), Int.emod_lt_of_pos _ hm, ?_⟩
    simp only [evs, h, e4, e5, e6, e7, e8, hd, e2, trunc_self hw]
/-! ### the next draw -/
def st3 (ns : List Int) (y : Int) (n : Nat) : List D := [.arr ns, .int y, .int n]
def cS (ns : List Int) (y : Int) (n : Nat) : Option Cel := some (.lst (st3 ns y n))
/-- the stores: the state of the draws above j -/
def SB (j : Sto) (ns : List Int) (y : Int) (n : Nat) : Sto := j ++ [cS ns y n]
theorem L_next (ns : List Int) (y : Int) (hy : 0 ≤ y) {j : Sto} (hj : Wf j) : Dw G__law_next j.length (SB j ns y) (j.length + 1) where
  hl := fun n => by unfold SB; simp
  wf := fun n => Wf.plain hj rfl
  next := fun n own ho m hm _ => by
    have hws : ∀ n, Wf (SB j ns y n ++ own) := fun n => Wf.plain (Wf.plain hj rfl) ho
    have es : ∀ n, SB j ns y n ++ own = j ++ cS ns y n :: own := fun n => by unfold SB; simp
    simp only [es] at hws ⊢
    have hw := hws (n + 1)
    obtain ⟨c, hc⟩ := L_cell_at ns (y + ((n : Int) + 1) / 12) (by omega) hw
    obtain ⟨r, r1, r2, hr⟩ := L_number (c + 31 * (((n : Int) + 1) / 12)) (((n : Int) + 1) % 12 + 1) m (by omega) (by omega) hm hw
    refine ⟨r, n + 1, r1, r2, ?_⟩
    have s0 : ∀ n, snap (.cell j.length) (j ++ cS ns y n :: own) = .ok (.lst (st3 ns y n)) (j ++ cS ns y n :: own) := fun n => snap_mid j _ own
    have i0 : ∀ n, atD (st3 ns y n) 0 = some (.arr ns) := fun n => rfl
    have i1 : ∀ n, atD (st3 ns y n) 1 = some (.int y) := fun n => rfl
    have i2 : ∀ n, atD (st3 ns y n) 2 = some (.int (n : Nat)) := fun n => rfl
    have p : lputI (.cell j.length) (.d (.int 2)) (.d (.int ((n : Int) + 1))) (j ++ cS ns y n :: own) = .ok (.d .non) (j ++ cS ns y (n + 1) :: own) := by
      refine (ev_lput (l := st3 ns y n) (i := 2) (m := 2) (mid_get ..) rfl).trans ?_
      rw [mid_set]
      rfl
    have i3 : atD (st3 ns y (n + 1)) 2 = some (.int ((n : Int) + 1)) := rfl
    have d1 : ∀ s, binD .fdiv (.int ((n : Int) + 1)) (.int 12) s = .ok (.int (((n : Int) + 1) / 12)) s := fun s => ev_divS s _ _ (by decide) (by decide)
    have d2 : ∀ s, binD .mul (.int 31) (.int (((n : Int) + 1) / 12)) s = .ok (.int (31 * (((n : Int) + 1) / 12))) s := fun s => ev_mulI s _ _ (.inl (by decide))
    have d3 : ∀ s, binD .mod (.int ((n : Int) + 1)) (.int 12) s = .ok (.int (((n : Int) + 1) % 12)) s := fun s => ev_modI s _ _ (by decide)
    simp only [G__law_next, dS__law_next, evs, Nat.reduceSub, Nat.reduceAdd, Nat.reduceLT, List.reduceReplicate, s0, i0, i1, i3, i2 n, p, d1, d2, d3, hc, hr]
    rw [trunc_eq hw (len_mid ..)]
theorem L_pick {k len : Nat} {ι : Type} {B : ι → Sto} (dw : Dw G__law_next k B len) (i : ι) {l : List D} (hl : l ≠ []) (hl2 : l.length < 100000) : ∃ x ∈ l, ∃ i', G__law_pick [.cell k, .d (.lst l)] [] (B i) = .ok (.d x) (B i') := by
  have hp : 0 < l.length := List.length_pos_iff.mpr hl
  obtain ⟨r, i', r1, r2, hr⟩ := dw.here i (m := (l.length : Nat)) (by omega) (by omega)
  obtain ⟨x, h1, h2⟩ := atD_ex r1 r2
  refine ⟨x, h2, i', ?_⟩
  simp only [G__law_pick, dS__law_pick, evs, Nat.reduceSub, List.reduceReplicate, hr, h1, dw.hl, dw.truncS]
end Pg
/-! FrH -/
/-! FrH: statements by what they leave. -/
namespace Pg
open PySem Fb
/-- goes on, and leaves Q -/
def Nx (r : Rt) (Q : DEnv → Sto → Prop) : Prop := ∃ e s, r = .nx e s ∧ Q e s
/-- hands back, and leaves Q -/
def Rr (r : Rt) (Q : Val → Sto → Prop) : Prop := ∃ v s, r = .rt v s ∧ Q v s
theorem Nx.eq {r : Rt} {Q : DEnv → Sto → Prop} {e : DEnv} {s : Sto} (h : r = .nx e s) (q : Q e s) : Nx r Q := ⟨e, s, h, q⟩
theorem Rr.eq {r : Rt} {Q : Val → Sto → Prop} {v : Val} {s : Sto} (h : r = .rt v s) (q : Q v s) : Rr r Q := ⟨v, s, h, q⟩
theorem Nx.mono {r : Rt} {Q R : DEnv → Sto → Prop} (h : Nx r Q) (i : ∀ e s, Q e s → R e s) : Nx r R := let ⟨e, s, h1, h2⟩ := h; ⟨e, s, h1, i e s h2⟩
theorem nx_seq {a b : DS} {e : DEnv} {s : Sto} {Q R : DEnv → Sto → Prop} (h : Nx (a e s) R) (h2 : ∀ e s, R e s → Nx (b e s) Q) : Nx (sSeq a b e s) Q := by
  obtain ⟨e1, s1, h1, r⟩ := h
  rw [ev_sSeq, h1, seq_nx]
  exact h2 e1 s1 r
theorem rr_seq {a b : DS} {e : DEnv} {s : Sto} {Q : Val → Sto → Prop} {R : DEnv → Sto → Prop} (h : Nx (a e s) R) (h2 : ∀ e s, R e s → Rr (b e s) Q) : Rr (sSeq a b e s) Q := by
  obtain ⟨e1, s1, h1, r⟩ := h
  rw [ev_sSeq, h1, seq_nx]
  exact h2 e1 s1 r
theorem nx_for {α : Type} {g : DG} {p : DS} {enc : α → D} {I : List α → DEnv → Sto → Prop} : ∀ (l pre : List α) (e : DEnv) (s : Sto), I pre e s →
    (∀ pre' b post e s, pre ++ l = pre' ++ b :: post → I pre' e s → Nx (forStep g p (enc b) e s) (I (pre' ++ [b]))) → Nx (forL g p (l.map enc) e s) (I (pre ++ l))
  | [], pre, e, s, h, _ => ⟨e, s, rfl, by rw [List.append_nil]; exact h⟩
  | b :: r, pre, e, s, h, st => by
    obtain ⟨e1, s1, h1, h2⟩ := st pre b r e s rfl h
    have := nx_for (g := g) (p := p) (enc := enc) (I := I) r (pre ++ [b]) e1 s1 h2 fun pre' b post e s hp => st pre' b post e s (by rw [← hp]; simp)
    rw [List.append_assoc] at this
    obtain ⟨e2, s2, h3, h4⟩ := this
    refine ⟨e2, s2, ?_, h4⟩
    rw [List.map_cons]
    show (match forStep g p (enc b) e s with | .nx e' s' => forL g p (r.map enc) e' s' | .ct e' s' => forL g p (r.map enc) e' s' | .bk e' s' => .nx e' s' | r => r) = _
    rw [h1]
    exact h3
theorem nx_for0 {α : Type} {g : DG} {p : DS} {enc : α → D} {I : List α → DEnv → Sto → Prop} (l : List α) {e : DEnv} {s : Sto} (h : I [] e s)
    (st : ∀ pre b post e s, l = pre ++ b :: post → I pre e s → Nx (forStep g p (enc b) e s) (I (pre ++ [b]))) : Nx (forL g p (l.map enc) e s) (I l) := by
  have := nx_for (I := I) (g := g) (p := p) (enc := enc) l [] e s h fun pre' b post e s hp => st pre' b post e s (by simpa using hp)
  simpa using this
/-- a loop whose turns hold an invariant -/
theorem nx_forI {g : DG} {p : DS} {I : DEnv → Sto → Prop} : ∀ (l : List D) (e : DEnv) (s : Sto), I e s → (∀ d e s, d ∈ l → I e s → Nx (forStep g p d e s) I) → Nx (forL g p l e s) I
  | [], e, s, h, _ => ⟨e, s, rfl, h⟩
  | d :: r, e, s, h, st => by
    obtain ⟨e1, s1, h1, h2⟩ := st d e s (List.mem_cons_self ..) h
    obtain ⟨e2, s2, h3, h4⟩ := nx_forI r e1 s1 h2 fun d e s hd => st d e s (List.mem_cons_of_mem _ hd)
    refine ⟨e2, s2, ?_, h4⟩
    show (match forStep g p d e s with | .nx e' s' => forL g p r e' s' | .ct e' s' => forL g p r e' s' | .bk e' s' => .nx e' s' | r => r) = _
    rw [h1]
    exact h3
/-- a search: the first turn that fails hands back v -/
theorem forL_chk {β : Type} {g : DG} {p : DS} {enc : β → D} (I : DEnv → Sto → Prop) (J : Sto → Prop) (q : β → Bool) {v : Val} : ∀ (l : List β) (e : DEnv) (s : Sto), I e s →
    (∀ b e s, b ∈ l → I e s → (q b = true → Nx (forStep g p (enc b) e s) I) ∧ (q b = false → ∃ s', forStep g p (enc b) e s = .rt v s' ∧ J s')) →
    (l.all q = true → Nx (forL g p (l.map enc) e s) I) ∧ (l.all q = false → ∃ s', forL g p (l.map enc) e s = .rt v s' ∧ J s')
  | [], e, s, h, _ => ⟨fun _ => ⟨e, s, rfl, h⟩, fun z => nomatch z⟩
  | b :: r, e, s, h, st => by
    obtain ⟨h1, h2⟩ := st b e s (List.mem_cons_self ..) h
    have key : ∀ e s, forL g p ((b :: r).map enc) e s = (match forStep g p (enc b) e s with | .nx e' s' => forL g p (r.map enc) e' s' | .ct e' s' => forL g p (r.map enc) e' s' | .bk e' s' => .nx e' s' | r => r) := fun e s => rfl
    cases z : q b with
    | false =>
      obtain ⟨s', h3, h4⟩ := h2 z
      refine ⟨fun y => ?_, fun _ => ⟨s', ?_, h4⟩⟩
      · rw [List.all_cons, z] at y; cases y
      · rw [key, h3]
    | true =>
      obtain ⟨e1, s1, h3, h4⟩ := h1 z
      have ih := forL_chk I J q r e1 s1 h4 fun b e s hb => st b e s (List.mem_cons_of_mem _ hb)
      rw [List.all_cons, z, Bool.true_and]
      refine ⟨fun y => ?_, fun y => ?_⟩
      · obtain ⟨e2, s2, h5, h6⟩ := ih.1 y
        exact ⟨e2, s2, by rw [key, h3]; exact h5, h6⟩
      · obtain ⟨s2, h5, h6⟩ := ih.2 y
        exact ⟨s2, by rw [key, h3]; exact h5, h6⟩
theorem rr_fin {r : Rt} {n : Nat} {Q : D → Sto → Prop} (h : Rr r fun v s => ∃ d, v = .d d ∧ Q d (trunc n s)) : ∃ d s, r.fin n = .ok (.d d) s ∧ Q d s := by
  obtain ⟨v, s, h1, d, rfl, h2⟩ := h
  exact ⟨d, _, by rw [h1]; rfl, h2⟩
end Pg
/-! FrC -/
/-! FrC: family B: the board that is drawn. -/
namespace Pg
open PySem Fb Lb
theorem cut_take {α : Type} (l : List α) (k : Nat) : cut l none (some (k : Int)) = l.take k := by
  unfold cut
  have h1 : HT.sIx l.length 0 none = 0 := rfl
  have h2 : HT.sIx l.length l.length (some (k : Int)) = min k l.length := HT.sIx_nat _ _ k
  rw [h1, h2, List.drop_zero, Nat.sub_zero]
  by_cases h : k ≤ l.length
  · rw [Nat.min_eq_left h]
  · rw [Nat.min_eq_right (by omega), List.take_of_length_le (Nat.le_refl _), List.take_of_length_le (by omega)]
def eRw (f : Fl) : D := .tup [.int f.side, .tup (f.aims.map eN), .bl f.goal]
def eRs (l : List (Str × Fl)) : List (D × D) := l.map fun p => (eN p.1, eRw p.2)
def ePl (b : Bd) : D := .tup [.dic false (eRs b.lines), eN b.start, eFe b.fees]
structure FlOk (names : List Str) (f : Fl) : Prop where
  sub : ∀ a ∈ f.aims, a ∈ names
  nd : f.aims.Nodup
  len : f.aims.length ≤ 3
  side : f.side = 1 ∨ f.side = 2
theorem take_sub {α : Type} {l : List α} {k : Nat} : (l.take k).Sublist l := List.take_sublist ..
def movesOf (l : List (Str × Fl)) : List Mv := l.flatMap fun p => p.2.aims.map fun a => (p.1, a)
section
variable {k len : Nat} {ι : Type} {B : ι → Sto} (dw : Dw G__law_next k B len)
include dw
theorem turn_drawn {names : List Str} (hn : names.Nodup) (hl : names.length ≤ 8) (hne : names ≠ []) (hnm : ∀ x ∈ names, Nm x) (m0 : Option Val) (i : ι) (dl : List (Str × Fl)) (ev : List Mv) (hdl : dl.length ≤ 8) (hev : ev.length ≤ 100) {x : Str} (hx : x ∈ names) (hnew : x ∉ dl.map (·.1)) (y5 y8 y9 : Option Val) :
    Nx (forStep (tgN 5) L__law_drawn_0 (eN x) [some (.cell k), m0, some (.d (.lst (names.map eN))), some (.cell len), some (.d (.lst (ev.map eM))), y5, none, none, y8, y9] (B i ++ [some (.dic false (eRs dl))]))
      fun e s => ∃ f i' z8 z9, FlOk names f ∧ e = [some (.cell k), m0, some (.d (.lst (names.map eN))), some (.cell len), some (.d (.lst ((ev ++ f.aims.map fun a => (x, a)).map eM))), some (.d (eN x)), none, none, z8, z9] ∧ s = B i' ++ [some (.dic false (eRs (dl ++ [(x, f)])))] := by
  have dw' := dw.one (some (.dic false (eRs dl)))
  simp only [forStep, L__law_drawn_0, evs]
  obtain ⟨a0, i1, sub, e1⟩ := ev_dLcS dw' (g := tgN 9) (t := tCmp .eq (dCallG G__law_next (dCons (dVar 0) (dCons (dCon (.int 3)) dNil))) (dCon (.int 0))) (el := dVar 9) (vs := [9]) (enc := eN) (src := iSeq (dVar 2))
    (e := [some (.cell k), m0, some (.d (.lst (names.map eN))), some (.cell len), some (.d (.lst (ev.map eM))), some (.d (eN x)), none, none, y8, y9])
    (E := fun a => [some (.cell k), m0, some (.d (.lst (names.map eN))), some (.cell len), some (.d (.lst (ev.map eM))), some (.d (eN x)), none, none, y8, some (.d (eN a))]) names eN i
    (by simp only [evs]) (by omega) (fun a ha => by simp only [evs]) (fun a ha i acc => by
      obtain ⟨r, i', r1, r2, hr⟩ := dw'.next i [some (.lst acc)] rfl 3 (by decide) (by decide)
      exact ⟨decide (r = 0), i', by simp only [evs, hr]⟩) (fun a ha i acc => by simp only [evs])
  rw [e1]
  simp only [evs]
  have q0 : ∀ s, cmpD .eq (.lst (a0.map eN)) (.lst []) s = .ok a0.isEmpty s := fun s => by rw [ev_eq _ _ _ (okQ_names0 fun y hy => hnm y (sub.subset hy)), eqD_lst0]
  simp only [q0, evs]
  -- the aims behind the second row
  have key : ∀ (a1 : List Str) (i2 : ι), (∀ a ∈ a1, a ∈ names) → a1.Nodup → Nx (((sSet 8 (dIf (tCmp .gt (dCallG G__law_next (dCons (dVar 0) (dCons (dCon (.int 3)) (dNil)))) (dCon (.int 0))) (dSl2 (dVar 8) (oNone) (oSome (dCon (.int 3)))) (dSl2 (dRev (dVar 8)) (oNone) (oSome (dCon (.int 3)))))) [some (.cell k), m0, some (.d (.lst (names.map eN))), some (.cell len), some (.d (.lst (ev.map eM))), some (.d (eN x)), none, none, some (.d (.lst (a1.map eN))), y9] (B i2 ++ [some (.dic false (eRs dl))])).seq
      (sSeq (sPut (dVar 3) (dVar 5) (dTup (dCons (dBin .add (dCon (.int 1)) (dCallG G__law_next (dCons (dVar 0) (dCons (dCon (.int 2)) (dNil))))) (dCons (dB bTuple (dCons (dVar 8) (dNil))) (dCons (tV (tCmp .eq (dCallG G__law_next (dCons (dVar 0) (dCons (dCon (.int 6)) (dNil)))) (dCon (.int 0)))) (dNil)))))) (sSet 4 (dBin .add (dVar 4) (dLc (iSeq (dVar 8)) (tgN 9) (tYs) (dTup (dCons (dVar 5) (dCons (dVar 9) (dNil)))) [9] false)))))
      fun e s => ∃ f i' z8 z9, FlOk names f ∧ e = [some (.cell k), m0, some (.d (.lst (names.map eN))), some (.cell len), some (.d (.lst ((ev ++ f.aims.map fun a => (x, a)).map eM))), some (.d (eN x)), none, none, z8, z9] ∧ s = B i' ++ [some (.dic false (eRs (dl ++ [(x, f)])))] := by
    intro a1 i2 hsub hnd
    obtain ⟨r3, i3, _, _, h3⟩ := dw'.here i2 (m := 3) (by decide) (by decide)
    obtain ⟨r4, i4, h41, h42, h4⟩ := dw'.here i3 (m := 2) (by decide) (by decide)
    obtain ⟨r5, i5, _, _, h5⟩ := dw'.here i4 (m := 6) (by decide) (by decide)
    obtain ⟨a2, c1, c2, hc, hcut⟩ : ∃ a2 : List Str, (∀ a ∈ a2, a ∈ names) ∧ a2.Nodup ∧ a2.length ≤ 3 ∧ (if 0 < r3 then cut (a1.map eN) none (some 3) else cut (a1.map eN).reverse none (some 3)) = a2.map eN := by
      by_cases hr : 0 < r3
      · rw [if_pos hr]
        have := cut_take (a1.map eN) 3
        exact ⟨a1.take 3, fun a ha => hsub a (take_sub.subset ha), hnd.sublist take_sub, List.length_take_le .., by rw [show (3 : Int) = ((3 : Nat) : Int) from rfl, this, List.map_take]⟩
      · rw [if_neg hr]
        have := cut_take (a1.map eN).reverse 3
        refine ⟨a1.reverse.take 3, fun a ha => hsub a (List.mem_reverse.mp (take_sub.subset ha)), (List.pairwise_reverse.mpr (hnd.imp fun h => h.symm)).sublist take_sub, List.length_take_le .., ?_⟩
        rw [show (3 : Int) = ((3 : Nat) : Int) from rfl, this, List.map_take, List.map_reverse]
    have hcut1 : 0 < r3 → cut (a1.map eN) none (some 3) = a2.map eN := fun h => by rw [← hcut, if_pos h]
    have hcut2 : ¬ 0 < r3 → cut (a1.map eN).reverse none (some 3) = a2.map eN := fun h => by rw [← hcut, if_neg h]
    have eC : sSet 8 (dIf (tCmp .gt (dCallG G__law_next (dCons (dVar 0) (dCons (dCon (.int 3)) (dNil)))) (dCon (.int 0))) (dSl2 (dVar 8) (oNone) (oSome (dCon (.int 3)))) (dSl2 (dRev (dVar 8)) (oNone) (oSome (dCon (.int 3))))) [some (.cell k), m0, some (.d (.lst (names.map eN))), some (.cell len), some (.d (.lst (ev.map eM))), some (.d (eN x)), none, none, some (.d (.lst (a1.map eN))), y9] (B i2 ++ [some (.dic false (eRs dl))]) =
        .nx [some (.cell k), m0, some (.d (.lst (names.map eN))), some (.cell len), some (.d (.lst (ev.map eM))), some (.d (eN x)), none, none, some (.d (.lst (a2.map eN))), y9] (B i3 ++ [some (.dic false (eRs dl))]) := by
      by_cases hr : 0 < r3
      · simp only [evs, h3, hr, hcut1 hr]
      · simp only [evs, h3, hr, hcut2 hr]
    rw [eC, seq_nx]
    have hp : ∀ y, putI (.cell len) (.d (eN x)) (.d (eRw y)) (B i5 ++ [some (.dic false (eRs dl))]) = .ok (.d .non) (B i5 ++ [some (.dic false (eRs (dl ++ [(x, y)])))]) := fun y => by
      rw [ev_putI (t := false) (l := eRs dl) _ _ (dw.get ..) (isKey_eN x) (by unfold eRs; rw [List.length_map]; omega), dw.set]
      unfold eRs
      rw [putNm eRw dl x y, dPut_new hnew]
    have hp := hp ⟨1 + r4, a2, decide (r5 = 0)⟩
    unfold eRw at hp
    have eL : dLc (iSeq (dVar 8)) (tgN 9) (tYs) (dTup (dCons (dVar 5) (dCons (dVar 9) (dNil)))) [9] false [some (.cell k), m0, some (.d (.lst (names.map eN))), some (.cell len), some (.d (.lst (ev.map eM))), some (.d (eN x)), none, none, some (.d (.lst (a2.map eN))), y9] (B i5 ++ [some (.dic false (eRs (dl ++ [(x, ⟨1 + r4, a2, decide (r5 = 0)⟩)])))]) =
        .ok (.d (.lst ((a2.map fun a => (x, a)).map eM))) (B i5 ++ [some (.dic false (eRs (dl ++ [(x, ⟨1 + r4, a2, decide (r5 = 0)⟩)])))]) := by
      rw [ev_dLc (enc := eN) (E := fun a => [some (.cell k), m0, some (.d (.lst (names.map eN))), some (.cell len), some (.d (.lst (ev.map eM))), some (.d (eN x)), none, none, some (.d (.lst (a2.map eN))), some (.d (eN a))]) (p := fun _ => true) a2 (fun a => eM (x, a)) (by simp only [evs]) (Wf.plain (dw.wf i5) rfl) (by omega) (fun a ha => by simp only [evs]) (fun a ha s w => by simp only [evs]) (fun a ha _ s w => by simp only [evs, Nat.reduceAdd, Nat.reduceLT]; rfl)]
      rw [filter_tt, List.map_map]
      rfl
    have hadd : ∀ s, binD .add (.lst (ev.map eM)) (.lst ((a2.map fun a => (x, a)).map eM)) s = .ok (.lst ((ev ++ a2.map fun a => (x, a)).map eM)) s := fun s => by
      rw [ev_addL _ _ _ (by rw [List.length_map, List.length_map, List.length_map]; unfold PySem.sizeLine; omega), List.map_append]
    refine Nx.eq (e := [some (.cell k), m0, some (.d (.lst (names.map eN))), some (.cell len), some (.d (.lst ((ev ++ a2.map fun a => (x, a)).map eM))), some (.d (eN x)), none, none, some (.d (.lst (a2.map eN))), y9]) (s := B i5 ++ [some (.dic false (eRs (dl ++ [(x, ⟨1 + r4, a2, decide (r5 = 0)⟩)])))]) ?_ ⟨⟨1 + r4, a2, decide (r5 = 0)⟩, i5, some (.d (.lst (a2.map eN))), y9, ⟨c1, c2, hc, by show 1 + r4 = 1 ∨ 1 + r4 = 2; omega⟩, rfl, rfl⟩
    simp only [evs, h4, h5, hp, eL, hadd, Nat.reduceAdd, Nat.reduceLT]
  cases hz : a0.isEmpty with
  | false =>
    simp only [evs]
    exact key a0 i1 (fun b hb => sub.subset hb) (hn.sublist sub)
  | true =>
    obtain ⟨r5, i2, _, _, h5⟩ := dw'.here i1 (m := 5) (by decide) (by decide)
    have e0 := List.isEmpty_iff.mp hz
    subst e0
    simp only [evs, h5]
    by_cases hr : 0 < r5
    · obtain ⟨y, hy, i3, hp⟩ := L_pick dw' i2 (l := names.map eN) (by simpa using hne) (by rw [List.length_map]; omega)
      obtain ⟨p, hp1, rfl⟩ := List.mem_map.mp hy
      simp only [hr, evs, hp, Nat.reduceAdd, Nat.reduceLT]
      exact key [p] i3 (fun b hb => by rw [List.mem_singleton.mp hb]; exact hp1) (by simp)
    · simp only [hr, evs]
      exact key [] i2 (by simp) (by simp)
theorem turn_fees (v0 v1 v2 v3 v5 : Option Val) (hv0 : v0 = some (.cell k)) (dl : List (Str × Fl)) (ev : List Mv) (hmv : SOk ev) (hev : ev.length < 1000) (i : ι) (fees : List (Mv × Int)) (hf : fees.length ≤ 100) (t : D) (y7 y8 y9 : Option Val) :
    Nx (forStep (tgN 7) L__law_drawn_1 t [v0, v1, v2, v3, some (.d (.lst (ev.map eM))), v5, some (.cell (len + 1)), y7, y8, y9] (B i ++ [some (.dic false (eRs dl)), some (.dic true (fees.map fun p => (eM p.1, .int p.2)))]))
      fun e s => ∃ fees' i' z7, (fees' = fees ∨ ∃ m c, m ∈ ev ∧ 1 ≤ c ∧ c ≤ 3 ∧ fees' = dPut fees m c) ∧ e = [v0, v1, v2, v3, some (.d (.lst (ev.map eM))), v5, some (.cell (len + 1)), z7, y8, y9] ∧ s = B i' ++ [some (.dic false (eRs dl)), some (.dic true (fees'.map fun p => (eM p.1, .int p.2)))] := by
  subst hv0
  have dw' := dw.app (r := [some (.dic false (eRs dl)), some (.dic true (fees.map fun p => (eM p.1, .int p.2)))]) rfl
  have q0 : ∀ s, cmpD .ne (.lst (ev.map eM)) (.lst []) s = .ok (!ev.isEmpty) s := fun s => by
    rw [ev_ne _ _ _ (by unfold okQ; rw [isData_lst, isData_lst, all_moves hmv]; rfl), eqD_lst0]
  simp only [forStep, L__law_drawn_1, evs, q0]
  cases hz : ev.isEmpty with
  | true =>
    simp only [evs]
    exact Nx.eq rfl ⟨fees, i, some (.d t), .inl rfl, rfl, rfl⟩
  | false =>
    have hne : ev ≠ [] := fun e => by rw [e] at hz; cases hz
    obtain ⟨c, i1, c1, c2, hc⟩ := dw'.here i (m := 3) (by decide) (by decide)
    obtain ⟨y, hy, i2, hp⟩ := L_pick dw' i1 (l := ev.map eM) (by simpa using hne) (by rw [List.length_map]; omega)
    obtain ⟨m, hm, rfl⟩ := List.mem_map.mp hy
    have hput : putI (.cell (len + 1)) (.d (eM m)) (.d (.int (1 + c))) (B i2 ++ [some (.dic false (eRs dl)), some (.dic true (fees.map fun p => (eM p.1, .int p.2)))]) = .ok (.d .non) (B i2 ++ [some (.dic false (eRs dl)), some (.dic true ((dPut fees m (1 + c)).map fun p => (eM p.1, .int p.2)))]) := by
      rw [ev_putI (t := true) _ _ (dw.get1 ..) (isKey_eM m) (by rw [List.length_map]; omega), dw.set1]
      rw [putMv (fun c : Int => D.int c) fees m (1 + c)]
    simp only [evs, hc, hp, hput]
    exact Nx.eq rfl ⟨dPut fees m (1 + c), i2, some (.d t), .inr ⟨m, 1 + c, hm, by omega, by omega, rfl⟩, rfl, rfl⟩
end
section
variable {κ β : Type} [DecidableEq κ]
theorem dPut_keys (l : List (κ × β)) (x : κ) (v : β) : (dPut l x v).map (·.1) = if x ∈ l.map (·.1) then l.map (·.1) else l.map (·.1) ++ [x] := by
  unfold dPut
  by_cases h : x ∈ l.map (·.1)
  · rw [if_pos h, if_pos h, List.map_map]
    refine List.map_congr_left fun p _ => ?_
    simp only [Function.comp]
    by_cases q : p.1 = x
    · rw [if_pos q]
    · rw [if_neg q]
  · rw [if_neg h, if_neg h, List.map_append]
    rfl
theorem dPut_nd {l : List (κ × β)} (h : (l.map (·.1)).Nodup) (x : κ) (v : β) : ((dPut l x v).map (·.1)).Nodup := by
  rw [dPut_keys]
  by_cases q : x ∈ l.map (·.1)
  · rw [if_pos q]; exact h
  · rw [if_neg q, List.nodup_append]
    exact ⟨h, by simp, fun a ha b hb e => q (by rw [List.mem_singleton.mp hb] at e; rw [← e]; exact ha)⟩
theorem dPut_len (l : List (κ × β)) (x : κ) (v : β) : (dPut l x v).length ≤ l.length + 1 := by
  unfold dPut
  split
  · rw [List.length_map]; omega
  · simp
theorem dPut_mem {l : List (κ × β)} {x : κ} {v : β} {p : κ × β} (h : p ∈ dPut l x v) : p ∈ l ∨ p = (x, v) := by
  unfold dPut at h
  by_cases q : x ∈ l.map (·.1)
  · rw [if_pos q] at h
    obtain ⟨y, h1, h2⟩ := List.mem_map.mp h
    by_cases z : y.1 = x
    · rw [if_pos z] at h2
      exact .inr (by rw [← h2, z])
    · rw [if_neg z] at h2
      exact .inl (by rw [← h2]; exact h1)
  · rw [if_neg q, List.mem_append, List.mem_singleton] at h
    exact h
end
theorem fl_of_nd {l : List (Str × Fl)} (nd : (l.map (·.1)).Nodup) {p : Str × Fl} (h : p ∈ l) (st : Str) (fe : List (Mv × Int)) : Bd.fl ⟨l, st, fe⟩ p.1 = p.2 := by
  have key : ∀ {l : List (Str × Fl)}, (l.map (·.1)).Nodup → p ∈ l → l.lookup p.1 = some p.2 := by
    intro l
    induction l with
    | nil => intro _ h; cases h
    | cons q r ih =>
      intro nd h
      rw [List.map_cons, List.nodup_cons] at nd
      rw [List.lookup_cons]
      rcases List.mem_cons.mp h with z | z
      · subst z; simp
      · have h2 : (p.1 == q.1) = false := by
          rw [beq_eq_false_iff_ne]
          intro y
          exact nd.1 (by rw [← y]; exact List.mem_map_of_mem z)
        rw [h2]
        exact ih nd.2 z
  unfold Bd.fl
  rw [key nd h]
  rfl
theorem movesOf_app (l : List (Str × Fl)) (x : Str) (f : Fl) : movesOf (l ++ [(x, f)]) = movesOf l ++ f.aims.map fun a => (x, a) := by
  unfold movesOf
  rw [List.flatMap_append]
  simp
theorem movesOf_mem {l : List (Str × Fl)} {m : Mv} (h : m ∈ movesOf l) : ∃ p ∈ l, m.1 = p.1 ∧ m.2 ∈ p.2.aims := by
  unfold movesOf at h
  rw [List.mem_flatMap] at h
  obtain ⟨p, h1, h2⟩ := h
  obtain ⟨a, h3, h4⟩ := List.mem_map.mp h2
  exact ⟨p, h1, by rw [← h4], by rw [← h4]; exact h3⟩
theorem movesOf_len {names : List Str} : ∀ {l : List (Str × Fl)}, (∀ p ∈ l, FlOk names p.2) → (movesOf l).length ≤ 3 * l.length
  | [], _ => by simp [movesOf]
  | p :: r, h => by
    have ih := movesOf_len (l := r) fun q hq => h q (List.mem_cons_of_mem _ hq)
    have h1 := (h p (List.mem_cons_self ..)).len
    unfold movesOf at ih ⊢
    rw [List.flatMap_cons, List.length_append, List.length_map, List.length_cons]
    omega
/-- rows that are drawn make a board -/
theorem okB_drawn {names : List Str} (hn : names.Nodup) (hl : names.length ≤ 8) (hnm : ∀ x ∈ names, isNm x = true) {dl : List (Str × Fl)} (hk : dl.map (·.1) = names) (hf : ∀ p ∈ dl, FlOk names p.2) {st : Str} (hs : st ∈ names) {fe : List (Mv × Int)} (nd : (fe.map (·.1)).Nodup) (hm : ∀ p ∈ fe, p.1 ∈ movesOf dl ∧ 1 ≤ p.2 ∧ p.2 ≤ 9) (hlen : fe.length ≤ 6) : OkB ⟨dl, st, fe⟩ := by
  have nd1 : (dl.map (·.1)).Nodup := by rw [hk]; exact hn
  have hfl : ∀ n ∈ names, FlOk names (Bd.fl ⟨dl, st, fe⟩ n) := fun n h => by
    rw [← hk] at h
    obtain ⟨p, hp, e⟩ := List.mem_map.mp h
    rw [← e, fl_of_nd nd1 hp]
    exact hf p hp
  have en : Bd.names ⟨dl, st, fe⟩ = names := hk
  exact {
    nd := by rw [en]; exact hn
    vn := by rw [en]; exact hnm
    closed := by rw [en]; exact fun n h a ha => (hfl n h).sub a ha
    aims := by rw [en]; exact fun n h => (hfl n h).nd
    side := by rw [en]; exact fun n h => (hfl n h).side
    start := by rw [en]; exact hs
    mnd := nd
    mv := fun m h => by
      obtain ⟨p, hp, e⟩ := List.mem_map.mp (show m ∈ fe.map (·.1) from h)
      obtain ⟨q, hq, e1, e2⟩ := movesOf_mem (hm p hp).1
      rw [e] at e1 e2
      refine ⟨by rw [en, ← hk, e1]; exact List.mem_map_of_mem hq, ?_⟩
      rw [e1, fl_of_nd nd1 hq]
      exact e2
    cost := fun p hp => (hm p hp).2
    len := by
      have : dl.length = names.length := by rw [← hk, List.length_map]
      show dl.length ≤ 8
      omega
    mlen := hlen }
def nmB : List Str := ["b", "a", "home", "d", "c", "e", "f"]
theorem nmB_nd : nmB.Nodup := by decide +kernel
theorem nmB_ok : ∀ x ∈ nmB, isNm x = true := by decide +kernel
section
variable {k len : Nat} {ι : Type} {B : ι → Sto} (dw : Dw G__law_next k B len)
include dw
theorem L_drawn (i : ι) {most : Int} (h0 : 0 ≤ most) (h1 : most ≤ 5) : ∃ b i', (OkB b ∧ (∀ p ∈ b.lines, p.2.aims.length ≤ 3) ∧ b.fees.length ≤ most.toNat) ∧ G__law_drawn [.cell k, .d (.int most)] [] (B i) = .ok (.d (ePl b)) (B i') := by
  obtain ⟨r0, i1, r01, r02, hr0⟩ := dw.here i (m := 6) (by decide) (by decide)
  obtain ⟨names, hnames⟩ : ∃ names, names = nmB.take (2 + r0).toNat := ⟨_, rfl⟩
  have hsub : names.Sublist nmB := by rw [hnames]; exact List.take_sublist ..
  have hnd : names.Nodup := nmB_nd.sublist hsub
  have hnm : ∀ x ∈ names, isNm x = true := fun x hx => nmB_ok x (hsub.subset hx)
  have hnm' : ∀ x ∈ names, Nm x := fun x hx => isNm_nm (hnm x hx)
  have hlen : names.length ≤ 7 := hsub.length_le
  have hne : names ≠ [] := by
    intro e
    have : names.length = min (2 + r0).toNat 7 := by rw [hnames, List.length_take]; rfl
    rw [e] at this
    simp at this
    omega
  have hcut : cut [D.str "b", .str "a", .str "home", .str "d", .str "c", .str "e", .str "f"] none (some (2 + r0)) = names.map eN := by
    have e1 : (2 + r0) = (((2 + r0).toNat : Nat) : Int) := by omega
    have e2 : [D.str "b", .str "a", .str "home", .str "d", .str "c", .str "e", .str "f"] = nmB.map eN := rfl
    rw [e1, e2, cut_take, hnames, List.map_take]
  unfold G__law_drawn
  rw [ev_def2]
  have main : Rr (dS__law_drawn (some (.cell k) :: some (.d (.int most)) :: List.replicate (10 - 2) none) (B i)) fun v s => ∃ d, v = .d d ∧ ∃ b i', (OkB b ∧ (∀ p ∈ b.lines, p.2.aims.length ≤ 3) ∧ b.fees.length ≤ most.toNat) ∧ d = ePl b ∧ trunc (B i).length s = B i' := by
    unfold dS__law_drawn
    refine rr_seq (R := fun e s => e = [some (.cell k), some (.d (.int most)), some (.d (.lst (names.map eN))), none, none, none, none, none, none, none] ∧ s = B i1) (Nx.eq (by simp only [evs, Nat.reduceSub, List.reduceReplicate, hr0, hcut]) ⟨rfl, rfl⟩) ?_
    rintro e s ⟨rfl, rfl⟩
    refine rr_seq (R := fun e s => e = [some (.cell k), some (.d (.int most)), some (.d (.lst (names.map eN))), some (.cell len), some (.d (.lst ((movesOf []).map eM))), none, none, none, none, none] ∧ s = B i1 ++ [some (.dic false (eRs []))]) (Nx.eq (by simp only [evs, dw.hl]; rfl) ⟨rfl, rfl⟩) ?_
    rintro e s ⟨rfl, rfl⟩
    refine rr_seq (R := fun e s => ∃ dl i y5 y8 y9, dl.map (·.1) = names ∧ (∀ p ∈ dl, FlOk names p.2) ∧ e = [some (.cell k), some (.d (.int most)), some (.d (.lst (names.map eN))), some (.cell len), some (.d (.lst ((movesOf dl).map eM))), y5, none, none, y8, y9] ∧ s = B i ++ [some (.dic false (eRs dl))]) ?loop ?_
    case loop =>
      simp only [evs]
      refine nx_for0 (I := fun pre e s => ∃ dl i y5 y8 y9, dl.map (·.1) = pre ∧ (∀ p ∈ dl, FlOk names p.2) ∧ e = [some (.cell k), some (.d (.int most)), some (.d (.lst (names.map eN))), some (.cell len), some (.d (.lst ((movesOf dl).map eM))), y5, none, none, y8, y9] ∧ s = B i ++ [some (.dic false (eRs dl))]) names ⟨[], i1, none, none, none, rfl, by simp, rfl, rfl⟩ ?_
      rintro pre x post e s hp ⟨dl, i2, y5, y8, y9, hk, hf, rfl, rfl⟩
      have hl1 : names.length = pre.length + 1 + post.length := by rw [hp]; simp; omega
      have hl2 : dl.length = pre.length := by rw [← hk, List.length_map]
      have hml := movesOf_len hf
      have hnew : x ∉ dl.map (·.1) := by
        rw [hk]
        rw [hp] at hnd
        rw [List.nodup_append] at hnd
        exact fun z => hnd.2.2 x z x (by simp) rfl
      refine (turn_drawn dw hnd (by omega) hne hnm' (some (.d (.int most))) i2 dl (movesOf dl) (by omega) (by omega) (by rw [hp]; simp) hnew y5 y8 y9).mono ?_
      rintro e s ⟨f, i3, z8, z9, hfo, rfl, rfl⟩
      refine ⟨dl ++ [(x, f)], i3, _, z8, z9, by rw [List.map_append, hk]; rfl, fun p hp => ?_, by rw [movesOf_app], rfl⟩
      rcases List.mem_append.mp hp with h | h
      · exact hf p h
      · rw [List.mem_singleton.mp h]; exact hfo
    rintro e s ⟨dl, i2, y5, y8, y9, hk, hf, rfl, rfl⟩
    have hl2 : dl.length = names.length := by rw [← hk, List.length_map]
    have hml := movesOf_len hf
    have dw1 := dw.one (some (.dic false (eRs dl)))
    refine rr_seq (R := fun e s => e = [some (.cell k), some (.d (.int most)), some (.d (.lst (names.map eN))), some (.cell len), some (.d (.lst ((movesOf dl).map eM))), y5, some (.cell (len + 1)), none, y8, y9] ∧ s = B i2 ++ [some (.dic false (eRs dl)), some (.dic true [])]) (Nx.eq (by simp only [evs, dw1.hl, List.append_assoc]; rfl) ⟨rfl, rfl⟩) ?_
    rintro e s ⟨rfl, rfl⟩
    obtain ⟨r1, i3, r11, r12, hr1⟩ := dw.next i2 [some (.dic false (eRs dl)), some (.dic true [])] rfl (most + 1) (by omega) (by omega)
    have hmv : SOk (movesOf dl) := fun m hm => by
      obtain ⟨p, hp, e1, e2⟩ := movesOf_mem hm
      exact ⟨hnm' _ (by rw [e1, ← hk]; exact List.mem_map_of_mem hp), hnm' _ ((hf p hp).sub _ e2)⟩
    refine rr_seq (R := fun e s => ∃ (fees : List (Mv × Int)) (i : ι) (y7 : Option Val), (fees.map (·.1)).Nodup ∧ (∀ p ∈ fees, p.1 ∈ movesOf dl ∧ 1 ≤ p.2 ∧ p.2 ≤ 9) ∧ fees.length ≤ most.toNat ∧ e = [some (.cell k), some (.d (.int most)), some (.d (.lst (names.map eN))), some (.cell len), some (.d (.lst ((movesOf dl).map eM))), y5, some (.cell (len + 1)), y7, y8, y9] ∧ s = B i ++ [some (.dic false (eRs dl)), some (.dic true (fees.map fun p => (eM p.1, .int p.2)))]) ?loop2 ?_
    case loop2 =>
      have er : ∀ s, rng1 [.d (.int r1)] s = .ok (.its (upto 0 r1.toNat)) s := fun s => ev_rng1 s _ (by omega)
      simp only [evs, hr1, er]
      refine (nx_for0 (enc := fun i : Nat => D.int (0 + (i : Nat))) (I := fun pre e s => ∃ (fees : List (Mv × Int)) (i : ι) (y7 : Option Val), (fees.map (·.1)).Nodup ∧ (∀ p ∈ fees, p.1 ∈ movesOf dl ∧ 1 ≤ p.2 ∧ p.2 ≤ 9) ∧ fees.length ≤ pre.length ∧ e = [some (.cell k), some (.d (.int most)), some (.d (.lst (names.map eN))), some (.cell len), some (.d (.lst ((movesOf dl).map eM))), y5, some (.cell (len + 1)), y7, y8, y9] ∧ s = B i ++ [some (.dic false (eRs dl)), some (.dic true (fees.map fun p => (eM p.1, .int p.2)))]) (List.range r1.toNat) ⟨[], i3, none, by simp, by simp, by simp, rfl, rfl⟩ ?_).mono ?_
      · rintro pre t post e s hp ⟨fees, i4, y7, h1, h2, h3, rfl, rfl⟩
        have hll : r1.toNat = pre.length + 1 + post.length := by
          have := congrArg List.length hp
          rw [List.length_range, List.length_append, List.length_cons] at this
          omega
        refine (turn_fees dw _ _ _ _ y5 rfl dl (movesOf dl) hmv (by omega) i4 fees (by omega) _ y7 y8 y9).mono ?_
        rintro e s ⟨fees', i5, z7, hfe, rfl, rfl⟩
        refine ⟨fees', i5, z7, ?_, ?_, ?_, rfl, rfl⟩
        · rcases hfe with rfl | ⟨m, c, _, _, _, rfl⟩
          · exact h1
          · exact dPut_nd h1 m c
        · rcases hfe with rfl | ⟨m, c, hm, hc1, hc2, rfl⟩
          · exact h2
          · intro p hp
            rcases dPut_mem hp with h | h
            · exact h2 p h
            · rw [h]; exact ⟨hm, hc1, by show c ≤ 9; omega⟩
        · rw [List.length_append]
          rcases hfe with rfl | ⟨m, c, _, _, _, rfl⟩
          · simp; omega
          · have := dPut_len fees m c
            simp; omega
      · rintro e s ⟨fees, i4, y7, h1, h2, h3, rfl, rfl⟩
        rw [List.length_range] at h3
        exact ⟨fees, i4, y7, h1, h2, by omega, rfl, rfl⟩
    rintro e s ⟨fees, i4, y7, hfn, hfm, hfl, rfl, rfl⟩
    have dw2 := dw.app (r := [none, none]) rfl
    obtain ⟨x, hx, i5, hp⟩ := L_pick dw2 i4 (l := names.map eN) (by simpa using hne) (by rw [List.length_map]; omega)
    obtain ⟨st, hst, rfl⟩ := List.mem_map.mp hx
    have f1 : ∀ e, frzV e 3 len (B i4 ++ [some (.dic false (eRs dl)), some (.dic true (fees.map fun p => (eM p.1, .int p.2)))]) = .nx (e.set 3 (some (.d (.dic false (eRs dl))))) (B i4 ++ [none, some (.dic true (fees.map fun p => (eM p.1, .int p.2)))]) := fun e => by
      rw [frzV_dic _ _ _ _ _ _ (dw.get ..), dw.set]
    have f2 : ∀ e, frzV e 6 (len + 1) (B i4 ++ [none, some (.dic true (fees.map fun p => (eM p.1, .int p.2)))]) = .nx (e.set 6 (some (.d (.dic true (fees.map fun p => (eM p.1, .int p.2)))))) (B i4 ++ [none, none]) := fun e => by
      rw [frzV_dic _ _ _ _ _ _ (dw.get1 ..), dw.set1]
    refine Rr.eq (v := .d (ePl ⟨dl, st, fees⟩)) (s := B i5 ++ [none, none]) ?_ ⟨_, rfl, ⟨dl, st, fees⟩, i5, ⟨okB_drawn hnd (by omega) hnm hk hf hst hfn hfm (by omega), fun p hp => (hf p hp).len, hfl⟩, rfl, by rw [dw.hl, dw.trunc]⟩
    simp only [evs, f1, f2, hp]
    rfl
  obtain ⟨d, s, h1, b, i', h2, h3, h4⟩ := rr_fin (Q := fun d s => ∃ b i', (OkB b ∧ (∀ p ∈ b.lines, p.2.aims.length ≤ 3) ∧ b.fees.length ≤ most.toNat) ∧ d = ePl b ∧ s = B i') (main.imp fun v h => h.imp fun s h => ⟨h.1, h.2⟩)
  exact ⟨b, i', h2, by rw [h1, h3, h4]⟩
end
end Pg
/-! FrE -/
/-! FrE: family B: the board that is made, its ways. -/
namespace Pg
open PySem Fb Lb
theorem atD1 (a b c : D) : atD [a, b, c] 1 = some b := rfl
theorem atD2 (a b c : D) : atD [a, b, c] 2 = some c := rfl
theorem atD21 (a b : D) : atD [a, b] 1 = some b := rfl
theorem okF_of {names : List Str} {f : Fl} (h : FlOk names f) (hn : ∀ x ∈ names, isNm x = true) : OkF f := ⟨h.side, fun a ha => hn a (h.sub a ha), h.nd, by have := h.len; omega⟩
theorem L_field {f : Fl} (ok : OkF f) (hl : f.aims.length ≤ 3) {st : Sto} (hw : Wf st) : G__law_field [.d (eRw f)] [] st = .ok (.d (eF f)) st := by
  have mk := mk_field hw ok (ks := [.d (.bl f.goal)]) rfl
  simp only [G__law_field, dS__law_field, evs, Nat.reduceSub, List.reduceReplicate, eRw, ev_makeK]
  obtain ⟨side, aims, goal⟩ := f
  match aims, hl with
  | [], _ => simp only [evs, Int.natCast_zero, List.map_nil] at mk ⊢; simp only [mk, evs, trunc_self hw]
  | [a], _ =>
    simp only [evs] at mk ⊢
    simp only [evs, atD_zero, mk, trunc_self hw, Int.natCast_add, Int.natCast_zero, Int.zero_add, Int.natCast_one, Int.reduceEq, show (1 : Int) = 0 ↔ False by decide]
  | [a, b], _ =>
    simp only [evs] at mk ⊢
    simp only [evs, atD_zero, atD21, mk, trunc_self hw, Nat.reduceAdd, Int.cast_ofNat_Int, Int.reduceEq]
  | [a, b, c], _ =>
    simp only [evs] at mk ⊢
    simp only [evs, atD_zero, atD1, atD2, mk, trunc_self hw, Nat.reduceAdd, Int.cast_ofNat_Int, Int.reduceEq]
theorem ix_eRs {b : Bd} {n : Str} (h : n ∈ b.names) (s : Sto) : ixD (.dic false (eRs b.lines)) (eN n) s = .ok (eRw (b.fl n)) s := by
  show (if isKey false (eN n) = true then optM (Fb.look (eN n) (b.lines.map fun p => (eN p.1, eRw p.2))) else stk : M D) s = _
  rw [if_pos (isKey_eN n), look_names eRw, b.look h]
  rfl
theorem ix_pl0 (b : Bd) (s : Sto) : ixD (ePl b) (.int 0) s = .ok (.dic false (eRs b.lines)) s := rfl
theorem ix_pl1 (b : Bd) (s : Sto) : ixD (ePl b) (.int 1) s = .ok (eN b.start) s := rfl
theorem ix_pl2 (b : Bd) (s : Sto) : ixD (ePl b) (.int 2) s = .ok (eFe b.fees) s := rfl
theorem ix_rw0 (f : Fl) (s : Sto) : ixD (eRw f) (.int 0) s = .ok (.int f.side) s := rfl
theorem ix_rw1 (f : Fl) (s : Sto) : ixD (eRw f) (.int 1) s = .ok (.tup (f.aims.map eN)) s := rfl
theorem ix_rw2 (f : Fl) (s : Sto) : ixD (eRw f) (.int 2) s = .ok (.bl f.goal) s := rfl
theorem unp_rw (is : List Nat) (hi : is.length = 3) (e : DEnv) (f : Fl) (s : Sto) : unpX e is (eRw f) s = .nx (setAll e (is.zip [.d (.int f.side), .d (.tup (f.aims.map eN)), .d (.bl f.goal)])) s := by
  unfold eRw
  rw [ev_unpX _ _ _ _ (by rw [hi]; rfl)]
  rfl
theorem src_eRs (l : List (Str × Fl)) (s : Sto) : srcOf (.d (.dic false (eRs l))) s = .ok (.its ((l.map (·.1)).map eN)) s := by
  show Rs.ok (Src.its ((l.map fun p => (eN p.1, eRw p.2)).map (·.1))) s = _
  rw [List.map_map, List.map_map]
  rfl
theorem keys_eRs (l : List (Str × Fl)) : (eRs l).map (fun x => x.1) = l.map fun p => eN p.1 := by unfold eRs; rw [List.map_map]; rfl
theorem len_eRs (b : Bd) (s : Sto) : lenD (.dic false (eRs b.lines)) s = .ok (.d (.int (b.lines.length : Nat))) s := by
  show Rs.ok (Val.d (.int ((b.lines.map fun p => (eN p.1, eRw p.2)).length : Nat))) s = _
  rw [List.length_map]
/-- a tuple or a list of moves -/
structure IsS (x : D) (s : List Mv) : Prop where
  inn : ∀ m : Mv, Nm m.1 ∧ Nm m.2 → ∀ st, inD (eM m) x st = .ok (decide (m ∈ s)) st
theorem IsS.tup {s : List Mv} (hs : SOk s) : IsS (eS s) s := ⟨fun m hm st => by
  have h1 := isData_eM (n := 6) (m := m) hm
  unfold eS
  rw [ev_inT _ _ _ h1 (all_moves hs), inL_moves]⟩
theorem IsS.lst {s : List Mv} (hs : SOk s) : IsS (.lst (s.map eM)) s := ⟨fun m hm st => by
  have h1 := isData_eM (n := 6) (m := m) hm
  rw [ev_inL _ _ _ h1 (all_moves hs), inL_moves]⟩
section
variable {b : Bd} (ok : OkB b) {st : Sto} (hw : Wf st)
include ok hw
theorem L_board (h3 : ∀ p ∈ b.lines, p.2.aims.length ≤ 3) : G__law_board [.d (ePl b)] [] st = .ok (.d (eB b)) st := by
  have hokf : ∀ n ∈ b.names, OkF (b.fl n) ∧ (b.fl n).aims.length ≤ 3 := fun n hn => by
    refine ⟨⟨ok.side n hn, fun a ha => ok.vn a (ok.closed n hn a ha), ok.aims n hn, by have := aims_len ok hn; omega⟩, ?_⟩
    obtain ⟨p, hp, e⟩ := List.mem_map.mp hn
    rw [← e, Bd.fl_mem ok hp]
    exact h3 p hp
  have loop : Nx (forL (tgN 2) L__law_board_0 (b.lines.map fun p => eN p.1) [some (.d (ePl b)), some (.cell st.length), none] (st ++ [some (.dic false [])])) fun e s => ∃ y, e = [some (.d (ePl b)), some (.cell st.length), y] ∧ s = st ++ [some (.dic false (b.lines.map fun p => (eN p.1, eF p.2)))] := by
    refine nx_for0 (enc := fun p : Str × Fl => eN p.1) (I := fun pre e s => ∃ y, e = [some (.d (ePl b)), some (.cell st.length), y] ∧ s = st ++ [some (.dic false (pre.map fun p => (eN p.1, eF p.2)))]) b.lines ⟨none, rfl, rfl⟩ ?_
    rintro pre p post e s hp ⟨y, rfl, rfl⟩
    have hpm : p ∈ b.lines := by rw [hp]; simp
    have hn : p.1 ∈ b.names := List.mem_map_of_mem hpm
    have hfl := Bd.fl_mem ok hpm
    have hf := L_field (hokf p.1 hn).1 (hokf p.1 hn).2 (hw.dic false (pre.map fun p => (eN p.1, eF p.2)))
    rw [hfl] at hf
    have hix := ix_eRs (b := b) hn (st ++ [some (.dic false (pre.map fun p => (eN p.1, eF p.2)))])
    rw [hfl] at hix
    have hlen : pre.length ≤ 8 := by
      have := ok.len
      rw [hp] at this
      simp at this
      omega
    have hnew : p.1 ∉ pre.map (·.1) := by
      have nd := ok.nd
      unfold Bd.names at nd
      rw [hp, List.map_append, List.nodup_append] at nd
      exact fun z => nd.2.2 _ z p.1 (by simp) rfl
    have hput : putI (.cell st.length) (.d (eN p.1)) (.d (eF p.2)) (st ++ [some (.dic false (pre.map fun p => (eN p.1, eF p.2)))]) = .ok (.d .non) (st ++ [some (.dic false ((pre ++ [p]).map fun p => (eN p.1, eF p.2)))]) := by
      rw [ev_putI (t := false) _ _ (last_get _ _) (isKey_eN p.1) (by rw [List.length_map]; omega), last_set, putNm eF pre p.1 p.2, dPut_new hnew]
    refine Nx.eq (e := [some (.d (ePl b)), some (.cell st.length), some (.d (eN p.1))]) ?_ ⟨_, rfl, rfl⟩
    simp only [forStep, L__law_board_0, evs, ix_pl0, hix, hf, hput]
  obtain ⟨e, s, hl, y, rfl, rfl⟩ := loop
  have hmk := mk_board (hw.none) ok
  have em : (b.lines.map (·.1)).map eN = b.lines.map fun p => eN p.1 := by rw [List.map_map]; rfl
  have hz : ∀ e, frzV e 1 st.length (st ++ [some (.dic false (b.lines.map fun p => (eN p.1, eF p.2)))]) = .nx (e.set 1 (some (.d (eLn b.lines)))) (st ++ [none]) := fun e => by
    rw [frzV_dic _ _ _ _ _ _ (last_get _ _), last_set]
    rfl
  simp only [G__law_board, dS__law_board, evs, Nat.reduceSub, List.reduceReplicate, ix_pl0, ix_pl1, ix_pl2, keys_eRs, hl, hz, hmk]
  rw [trunc_app hw]
variable {n : Str} (hn : n ∈ b.names) {s : List Mv} {xs : D}
include hn
theorem L_waysX (hs : IsS xs s) : G__law_ways [.d (ePl b), .d (eN n), .d xs] [] st = .ok (.d (.lst ((ways b n s).map eN))) st := by
  have hl := aims_len ok hn
  simp only [G__law_ways, ev_def3, dS__law_ways, ev_sRet]
  rw [ev_dLc (enc := eN) (E := fun o => [some (.d (ePl b)), some (.d (eN n)), some (.d xs), some (.d (eN o))]) (p := fun o => !decide ((n, o) ∈ s)) (b.fl n).aims eN ?h1 hw (by omega) ?h2 ?h3 ?h4]
  case h1 => simp only [evs, Nat.reduceSub, List.reduceReplicate, ix_pl0, ix_eRs hn, ix_rw1]
  case h2 => intro a ha; simp only [evs, Nat.reduceSub, List.reduceReplicate]
  case h3 =>
    intro a ha s' w
    simp only [evs, tup_eM, hs.inn (n, a) ⟨ok.nm n hn, ok.aim_nm hn ha⟩]
  case h4 => intro a ha _ s' w; simp only [evs]
  · simp only [evs, trunc_self hw]
    rfl
theorem L_ways (hs : SOk s) : G__law_ways [.d (ePl b), .d (eN n), .d (eS s)] [] st = .ok (.d (.lst ((ways b n s).map eN))) st := L_waysX ok hw hn (.tup hs)
end
end Pg
/-! FmA -/
/-! FmA: distances round by round. -/
namespace Pg
open PySem Fb
def leadsP (b : Bd) (s : List Mv) (P : Str → Bool) (n : Str) : Bool := if (b.fl n).side = 1 then (ways b n s).any P else (ways b n s).all P
/-- the table behind round k -/
def rk (b : Bd) (s : List Mv) : Nat → Str → Option Int
  | 0, n => if wonAt b s n then some 0 else none
  | k + 1, n => match rk b s k n with
    | some i => some i
    | none => if leadsP b s (fun o => (rk b s k o).isSome) n then some ((k : Int) + 1) else none
theorem leadsP_congr {b : Bd} (ok : OkB b) {s : List Mv} {n : Str} (hn : n ∈ b.names) {P Q : Str → Bool} (h : ∀ o ∈ b.names, P o = Q o) : leadsP b s P n = leadsP b s Q n := by
  have key : ∀ o ∈ ways b n s, P o = Q o := fun o ho => h o (ok.closed n hn o (ways_sub ho))
  unfold leadsP
  have h1 : (ways b n s).any P = (ways b n s).any Q := by
    rw [Bool.eq_iff_iff, List.any_eq_true, List.any_eq_true]
    exact ⟨fun ⟨o, h1, h2⟩ => ⟨o, h1, by rw [← key o h1]; exact h2⟩, fun ⟨o, h1, h2⟩ => ⟨o, h1, by rw [key o h1]; exact h2⟩⟩
  have h2 : (ways b n s).all P = (ways b n s).all Q := by
    rw [Bool.eq_iff_iff, List.all_eq_true, List.all_eq_true]
    exact ⟨fun h o ho => by rw [← key o ho]; exact h o ho, fun h o ho => by rw [key o ho]; exact h o ho⟩
  rw [h1, h2]
theorem leadsOn_P (b : Bd) (s : List Mv) (ks : List Str) (n : Str) : leadsOn b s ks n = leadsP b s (fun o => decide (o ∈ ks)) n := rfl
def pre (b : Bd) (s : List Mv) : Nat → Str → Option Int
  | 0, _ => none
  | i + 1, n => rk b s i n
theorem rk_some {b : Bd} {s : List Mv} {i : Nat} {n : Str} {j : Int} (h : pre b s i n = some j) : rk b s i n = some j := by
  cases i with
  | zero => cases h
  | succ i =>
    have h : rk b s i n = some j := h
    show (match rk b s i n with | some i => some i | none => _) = _
    rw [h]
theorem lookup_app {α β : Type} [BEq α] [LawfulBEq α] (x : α) : ∀ l m : List (α × β), (l ++ m).lookup x = match l.lookup x with | some v => some v | none => m.lookup x
  | [], m => rfl
  | (y, v) :: r, m => by
    rw [List.cons_append, List.lookup_cons, List.lookup_cons]
    by_cases h : x == y
    · rw [h]
    · rw [Bool.not_eq_true] at h
      rw [h]
      exact lookup_app x r m
theorem lookup_const {i : Int} (x : Str) : ∀ L : List Str, (L.map fun n => (n, i)).lookup x = if x ∈ L then some i else none
  | [] => rfl
  | y :: r => by
    rw [List.map_cons, List.lookup_cons]
    by_cases h : x = y
    · subst h; simp
    · have h2 : (x == y) = false := by simp [h]
      rw [h2, lookup_const x r]
      simp [h]
section
variable {b : Bd} (ok : OkB b) {s : List Mv}
include ok
/-- nothing new in one round: nothing new behind it -/
theorem rk_stable {i : Nat} (h : ∀ n ∈ b.names, rk b s i n = pre b s i n) : ∀ j, ∀ n ∈ b.names, rk b s (i + j) n = pre b s i n := by
  intro j
  induction j with
  | zero => exact h
  | succ j ih =>
    intro n hn
    have e : rk b s (i + (j + 1)) n = (match rk b s (i + j) n with | some i => some i | none => if leadsP b s (fun o => (rk b s (i + j) o).isSome) n then some (((i + j : Nat) : Int) + 1) else none) := rfl
    rw [e, ih n hn]
    cases q : pre b s i n with
    | some v => rfl
    | none =>
      have h1 : leadsP b s (fun o => (rk b s (i + j) o).isSome) n = leadsP b s (fun o => (pre b s i o).isSome) n := leadsP_congr ok hn fun o ho => by rw [ih o ho]
      have h2 : leadsP b s (fun o => (pre b s i o).isSome) n = false := by
        have h3 := h n hn
        rw [q] at h3
        cases i with
        | zero =>
          have h4 : wonAt b s n = false := by
            cases z : wonAt b s n with
            | false => rfl
            | true =>
              have : rk b s 0 n = some 0 := by show (if wonAt b s n = true then some (0 : Int) else none) = _; rw [z]; rfl
              rw [this] at h3; cases h3
          show leadsP b s (fun _ => false) n = false
          unfold leadsP
          by_cases h1 : (b.fl n).side = 1
          · rw [if_pos h1]
            cases z : (ways b n s).any fun _ => false with
            | false => rfl
            | true =>
              obtain ⟨_, _, h⟩ := List.any_eq_true.mp z
              cases h
          · rw [if_neg h1]
            have h2 : (b.fl n).side = 2 := (ok.side n hn).resolve_left h1
            unfold wonAt at h4
            rw [h2] at h4
            cases w : ways b n s with
            | cons a r => rfl
            | nil =>
              rw [w] at h4
              simp at h4
        | succ i =>
          have e2 : rk b s (i + 1) n = (match rk b s i n with | some i => some i | none => if leadsP b s (fun o => (rk b s i o).isSome) n then some ((i : Int) + 1) else none) := rfl
          have q2 : rk b s i n = none := q
          rw [e2, q2] at h3
          show leadsP b s (fun o => (rk b s i o).isSome) n = false
          cases z : leadsP b s (fun o => (rk b s i o).isSome) n with
          | false => rfl
          | true => rw [z] at h3; cases h3
      rw [h1, h2]
      rfl
/-- the list of one round -/
structure RInv (b : Bd) (s : List Mv) (i : Nat) (f : List (Str × Int)) (L : List Str) : Prop where
  d : DInv b s f L
  f : ∀ n ∈ b.names, f.lookup n = pre b s i n
  L : ∀ n ∈ b.names, n ∈ L ↔ pre b s i n = none ∧ (rk b s i n).isSome = true
theorem rk_round {i : Nat} {f : List (Str × Int)} {L : List Str} (h : RInv b s i f L) {n : Str} (hn : n ∈ b.names) : (f ++ L.map fun n => (n, (i : Int))).lookup n = rk b s i n := by
  rw [lookup_app, h.f n hn, lookup_const]
  cases q : pre b s i n with
  | some v => exact (rk_some q).symm
  | none =>
    have hL := h.L n hn
    rw [q] at hL
    show (if n ∈ L then some (i : Int) else none) = _
    cases z : rk b s i n with
    | none =>
      rw [if_neg fun y => by have := (hL.mp y).2; rw [z] at this; cases this]
    | some v =>
      rw [if_pos (hL.mpr ⟨rfl, by rw [z]; rfl⟩)]
      cases i with
      | zero =>
        have e : rk b s 0 n = if wonAt b s n then some 0 else none := rfl
        rw [e] at z
        split at z
        · cases z; rfl
        · cases z
      | succ i =>
        have e : rk b s (i + 1) n = (match rk b s i n with | some i => some i | none => if leadsP b s (fun o => (rk b s i o).isSome) n then some ((i : Int) + 1) else none) := rfl
        have q2 : rk b s i n = none := q
        rw [e, q2] at z
        dsimp only at z
        split at z
        · cases z; rfl
        · cases z
theorem keys_lookup {f : List (Str × Int)} {n : Str} : decide (n ∈ keys f) = (f.lookup n).isSome := by
  rw [lookup_isSome]
  exact decide_eq_decide.mpr Iff.rfl
theorem RInv.next {i : Nat} {f : List (Str × Int)} {L : List Str} (h : RInv b s i f L) : RInv b s (i + 1) (f ++ L.map fun n => (n, (i : Int))) (nextL b s (f ++ L.map fun n => (n, (i : Int)))) where
  d := h.d.next ok i
  f := fun n hn => rk_round ok h hn
  L := fun n hn => by
    have h1 : ∀ o ∈ b.names, decide (o ∈ keys (f ++ L.map fun n => (n, (i : Int)))) = (rk b s i o).isSome := fun o ho => by rw [keys_lookup ok, rk_round ok h ho]
    have h2 : leadsOn b s (keys (f ++ L.map fun n => (n, (i : Int)))) n = leadsP b s (fun o => (rk b s i o).isSome) n := by
      rw [leadsOn_P]
      exact leadsP_congr ok hn h1
    unfold nextL
    rw [List.mem_filter, h1 n hn, h2]
    show _ ↔ rk b s i n = none ∧ (rk b s (i + 1) n).isSome = true
    have e : rk b s (i + 1) n = (match rk b s i n with | some i => some i | none => if leadsP b s (fun o => (rk b s i o).isSome) n then some ((i : Int) + 1) else none) := rfl
    rw [e]
    cases rk b s i n with
    | some v => simp
    | none =>
      cases leadsP b s (fun o => (rk b s i o).isSome) n <;> simp [hn]
theorem RInv.start : RInv b s 0 [] (b.names.filter fun n => wonAt b s n) where
  d := DInv.start ok
  f := fun n hn => rfl
  L := fun n hn => by
    rw [List.mem_filter]
    show _ ↔ none = none ∧ (if wonAt b s n then some (0 : Int) else none).isSome = true
    cases wonAt b s n <;> simp [hn]
theorem distL_rk : ∀ (m : Nat) (f : List (Str × Int)) (i : Nat) (L : List Str), RInv b s i f L → i ≤ f.length → b.lines.length + 1 ≤ f.length + m → ∀ K, b.lines.length ≤ K → ∀ n ∈ b.names, (distL b s m f (i : Int) L).lookup n = rk b s K n
  | 0, f, i, L, h, hi, hm, K, hK, n, hn => by
    have := h.d.size ok
    omega
  | m + 1, f, i, L, h, hi, hm, K, hK, n, hn => by
    unfold distL
    cases z : L.isEmpty with
    | true =>
      have hL : L = [] := List.isEmpty_iff.mp z
      rw [if_pos rfl, h.f n hn]
      have hst : ∀ n ∈ b.names, rk b s i n = pre b s i n := fun n hn => by
        cases q : pre b s i n with
        | some v => exact rk_some q
        | none =>
          cases y : rk b s i n with
          | none => rfl
          | some v =>
            have := (h.L n hn).mpr ⟨q, by rw [y]; rfl⟩
            rw [hL] at this
            cases this
      have h1 := h.d.size ok
      have := rk_stable ok hst (K - i) n hn
      rw [show i + (K - i) = K by omega] at this
      exact this.symm
    | false =>
      rw [if_neg Bool.false_ne_true]
      have hne : L ≠ [] := fun e => by rw [e] at z; cases z
      have hp := List.length_pos_iff.mpr hne
      exact distL_rk m _ (i + 1) _ (h.next ok) (by rw [List.length_append, List.length_map]; omega) (by rw [List.length_append, List.length_map]; omega) K hK n hn
theorem dist_rk {K : Nat} (hK : b.lines.length ≤ K) {n : Str} (hn : n ∈ b.names) : (distancesOf b s).lookup n = rk b s K n := distL_rk ok 1000 [] 0 _ (RInv.start ok) (by simp) (by have := ok.len; simp; omega) K hK n hn
end
end Pg
/-! FrF -/
/-! FrF: family B: the table of distances. -/
namespace Pg
open PySem Fb Lb
def tabG (b : Bd) (g : Str → Option Int) : List (Str × Option Int) := b.names.map fun n => (n, g n)
def upd (g : Str → Option Int) (n : Str) (v : Option Int) : Str → Option Int := fun m => if m = n then v else g m
theorem look_tab {b : Bd} (g : Str → Option Int) {o : Str} (h : o ∈ b.names) : (tabG b g).lookup o = some (g o) := by
  unfold tabG
  have key : ∀ l : List Str, o ∈ l → (l.map fun n => (n, g n)).lookup o = some (g o) := by
    intro l
    induction l with
    | nil => intro h; cases h
    | cons a r ih =>
      intro h
      rw [List.map_cons, List.lookup_cons]
      by_cases z : o = a
      · subst z; simp
      · have h2 : (o == a) = false := by simp [z]
        rw [h2]
        exact ih ((List.mem_cons.mp h).resolve_left z)
  exact key _ h
theorem tab_keys (b : Bd) (g : Str → Option Int) : (tabG b g).map (·.1) = b.names := by
  unfold tabG
  rw [List.map_map]
  have e : (Prod.fst ∘ fun n : Str => (n, g n)) = id := rfl
  rw [e, List.map_id]
theorem dPut_tab {b : Bd} (g : Str → Option Int) {n : Str} (h : n ∈ b.names) (v : Option Int) : dPut (tabG b g) n v = tabG b (upd g n v) := by
  unfold dPut
  rw [if_pos (by rw [tab_keys]; exact h)]
  unfold tabG
  rw [List.map_map]
  refine List.map_congr_left fun m _ => ?_
  unfold upd
  simp only [Function.comp]
  by_cases z : m = n <;> simp [z]
theorem tab_len (b : Bd) (g : Str → Option Int) : (tabG b g).length = b.lines.length := by unfold tabG; rw [List.length_map, names_len]
theorem ix_tab {b : Bd} (g : Str → Option Int) {o : Str} (h : o ∈ b.names) (s : Sto) : ixD (eDo (tabG b g)) (eN o) s = .ok (eO (g o)) s := by
  unfold eDo
  rw [ev_ixK _ _ _ _ (isKey_eN _), look_names eO, look_tab g h]
  rfl
theorem isNon_eO (o : Option Int) : isNonD (eO o) = o.isNone := by cases o <;> rfl
theorem rk_le {b : Bd} {s : List Mv} : ∀ {k : Nat} {n : Str} {v : Int}, rk b s k n = some v → 0 ≤ v ∧ v ≤ k
  | 0, n, v, h => by
    have e : rk b s 0 n = if wonAt b s n then some 0 else none := rfl
    rw [e] at h
    split at h
    · cases h; omega
    · cases h
  | k + 1, n, v, h => by
    have e : rk b s (k + 1) n = (match rk b s k n with | some i => some i | none => if leadsP b s (fun o => (rk b s k o).isSome) n then some ((k : Int) + 1) else none) := rfl
    rw [e] at h
    cases q : rk b s k n with
    | some w =>
      rw [q] at h
      cases h
      have := rk_le q
      omega
    | none =>
      rw [q] at h
      dsimp only at h
      split at h
      · cases h; omega
      · cases h
theorem rk_won {b : Bd} {s : List Mv} {n : Str} : ∀ {k : Nat}, rk b s k n = none → wonAt b s n = false
  | 0, h => by
    have e : rk b s 0 n = if wonAt b s n then some 0 else none := rfl
    rw [e] at h
    cases z : wonAt b s n with
    | false => rfl
    | true => rw [z] at h; cases h
  | k + 1, h => by
    have e : rk b s (k + 1) n = (match rk b s k n with | some i => some i | none => if leadsP b s (fun o => (rk b s k o).isSome) n then some ((k : Int) + 1) else none) := rfl
    rw [e] at h
    cases q : rk b s k n with
    | some w => rw [q] at h; cases h
    | none => exact rk_won q
theorem all_filter {α : Type} (P : α → Bool) : ∀ l : List α, l.all P = decide ((l.filter P).length = l.length)
  | [] => rfl
  | a :: r => by
    have ih := all_filter P r
    have hl := List.length_filter_le P r
    rw [List.all_cons, ih]
    cases h : P a with
    | true => rw [List.filter_cons_of_pos h]; simp
    | false =>
      rw [List.filter_cons_of_neg (by rw [h]; exact Bool.false_ne_true)]
      simp
      omega
theorem any_filter {α : Type} (P : α → Bool) : ∀ l : List α, l.any P = !(l.filter P).isEmpty
  | [] => rfl
  | a :: r => by
    rw [List.any_cons, any_filter P r]
    cases h : P a with
    | true => rw [List.filter_cons_of_pos h]; rfl
    | false => rw [List.filter_cons_of_neg (by rw [h]; exact Bool.false_ne_true)]; rfl
section
variable {b : Bd} (ok : OkB b) {s : List Mv} {xs : D} (hs : IsS xs s) {st : Sto} (hw : Wf st)
include ok hs hw
theorem far_loop0 : ∃ y4 y5 y6 y7, forL (tgN 4) L__law_far_0 (b.names.map eN) [some (.d (ePl b)), some (.d xs), some (.cell st.length), some (.d (.int 0)), none, none, none, none, none, none, none] (st ++ [some (.dic false [])]) =
    .nx [some (.d (ePl b)), some (.d xs), some (.cell st.length), some (.d (.int 0)), y4, y5, y6, y7, none, none, none] (st ++ [some (.dic false ((tabG b (rk b s 0)).map fun p => (eN p.1, eO p.2)))]) := by
  have loop := nx_for0 (g := tgN 4) (p := L__law_far_0) (enc := eN) (I := fun pr e s' => ∃ y4 y5 y6 y7, e = [some (.d (ePl b)), some (.d xs), some (.cell st.length), some (.d (.int 0)), y4, y5, y6, y7, none, none, none] ∧ s' = st ++ [some (.dic false ((pr.map fun n => (n, rk b s 0 n)).map fun p => (eN p.1, eO p.2)))]) b.names
    (e := [some (.d (ePl b)), some (.d xs), some (.cell st.length), some (.d (.int 0)), none, none, none, none, none, none, none]) (s := st ++ [some (.dic false [])]) ⟨none, none, none, none, rfl, rfl⟩ (by
      rintro pr n post e s' hp ⟨y4, y5, y6, y7, rfl, rfl⟩
      have hn : n ∈ b.names := by rw [hp]; simp
      have hlen : pr.length ≤ 8 := by
        have h1 := names_len b
        have := ok.len
        rw [hp] at h1
        simp at h1
        omega
      have hnew : n ∉ (pr.map fun n => (n, rk b s 0 n)).map (·.1) := by
        rw [List.map_map]
        have e : (Prod.fst ∘ fun n : Str => (n, rk b s 0 n)) = id := rfl
        rw [e, List.map_id]
        have nd := ok.nd
        rw [hp, List.nodup_append] at nd
        exact fun z => nd.2.2 _ z n (by simp) rfl
      have hw2 := hw.dic false ((pr.map fun n => (n, rk b s 0 n)).map fun p => (eN p.1, eO p.2))
      have hwy := L_waysX ok hw2 hn hs
      have q0 : ∀ st, cmpD .eq (.lst ((ways b n s).map eN)) (.lst []) st = .ok (ways b n s).isEmpty st := fun st => by rw [ev_eq _ _ _ (okQ_names0 (ways_nm ok hn s)), eqD_lst0]
      have hput : ∀ v, putI (.cell st.length) (.d (eN n)) (.d (eO v)) (st ++ [some (.dic false ((pr.map fun n => (n, rk b s 0 n)).map fun p => (eN p.1, eO p.2)))]) = .ok (.d .non) (st ++ [some (.dic false ((pr.map fun n => (n, rk b s 0 n)).map (fun p => (eN p.1, eO p.2)) ++ [(eN n, eO v)]))]) := fun v => by
        rw [ev_putI (t := false) _ _ (last_get _ _) (isKey_eN n) (by rw [List.length_map, List.length_map]; omega), last_set, putNm eO _ n v, dPut_new hnew, List.map_append]
        rfl
      have hputN := hput none
      have hput0 := hput (some 0)
      have eN0 : eO none = D.non := rfl
      have e00 : eO (some 0) = D.int 0 := rfl
      rw [eN0] at hputN
      rw [e00] at hput0
      refine Nx.eq (e := [some (.d (ePl b)), some (.d xs), some (.cell st.length), some (.d (.int 0)), some (.d (eN n)), some (.d (.int (b.fl n).side)), some (.d (.tup ((b.fl n).aims.map eN))), some (.d (.bl (b.fl n).goal)), none, none, none]) (s := st ++ [some (.dic false ((pr.map fun n => (n, rk b s 0 n)).map (fun p => (eN p.1, eO p.2)) ++ [(eN n, eO (rk b s 0 n))]))]) ?_ ⟨_, _, _, _, rfl, by rw [List.map_append, List.map_append]; rfl⟩
      have er : rk b s 0 n = if wonAt b s n then some 0 else none := rfl
      rw [er]
      unfold wonAt
      simp only [forStep, L__law_far_0, evs, ix_pl0, ix_eRs hn, unp_rw [5, 6, 7] rfl]
      cases (b.fl n).goal with
      | true => simp only [evs, hput0, Bool.true_or, e00]
      | false =>
        by_cases h2 : (b.fl n).side = 2
        · simp only [evs, h2, hwy, q0, Bool.false_or]
          cases (ways b n s).isEmpty with
          | true => simp only [evs, hput0, e00]
          | false => simp only [evs, hputN, eN0]
        · simp only [evs, h2, hputN, Bool.false_or, eN0])
  obtain ⟨e, s', h, y4, y5, y6, y7, rfl, rfl⟩ := loop
  exact ⟨y4, y5, y6, y7, h⟩
/-- one field in round k + 1 -/
theorem far_turn1 {k : Nat} {n : Str} (hn : n ∈ b.names) {g : Str → Option Int} (hgn : g n = rk b s k n) (hg : ∀ o ∈ b.names, g o = rk b s k o ∨ g o = rk b s (k + 1) o) (y4 y5 y6 y7 y8 y9 y10 : Option Val) :
    ∃ z8 z9, forStep (tgN 4) L__law_far_1 (eN n) [some (.d (ePl b)), some (.d xs), some (.cell st.length), some (.d (.int ((k : Int) + 1))), y4, y5, y6, y7, y8, y9, y10] (st ++ [some (.dic false ((tabG b g).map fun p => (eN p.1, eO p.2)))]) =
      .nx [some (.d (ePl b)), some (.d xs), some (.cell st.length), some (.d (.int ((k : Int) + 1))), some (.d (eN n)), y5, y6, y7, z8, z9, y10] (st ++ [some (.dic false ((tabG b (upd g n (rk b s (k + 1) n))).map fun p => (eN p.1, eO p.2)))]) := by
  have hw2 := hw.dic false ((tabG b g).map fun p => (eN p.1, eO p.2))
  have hwy := L_waysX ok hw2 hn hs
  have wl := ways_len ok hn s
  have sub : ∀ o ∈ ways b n s, o ∈ b.names := fun o ho => ok.closed n hn o (ways_sub ho)
  have hs0 : snap (.cell st.length) (st ++ [some (.dic false ((tabG b g).map fun p => (eN p.1, eO p.2)))]) = .ok (eDo (tabG b g)) (st ++ [some (.dic false ((tabG b g).map fun p => (eN p.1, eO p.2)))]) := snap_midD st false _ []
  have hs1 : ∀ c, snap (.cell st.length) (st ++ [some (.dic false ((tabG b g).map fun p => (eN p.1, eO p.2)))] ++ [c]) = .ok (eDo (tabG b g)) (st ++ [some (.dic false ((tabG b g).map fun p => (eN p.1, eO p.2)))] ++ [c]) := fun c => by
    rw [List.append_assoc]
    exact snap_midD st false _ [c]
  -- the near ones
  have n1 : dLc (iSeq (dVar 8)) (tgN 10) (tCmp .notN (dIx (dVar 2) (dVar 10)) (dCon .non)) (dVar 10) [10] false [some (.d (ePl b)), some (.d xs), some (.cell st.length), some (.d (.int ((k : Int) + 1))), some (.d (eN n)), y5, y6, y7, some (.d (.lst ((ways b n s).map eN))), y9, y10] (st ++ [some (.dic false ((tabG b g).map fun p => (eN p.1, eO p.2)))]) =
      .ok (.d (.lst (((ways b n s).filter fun o => (g o).isSome).map eN))) (st ++ [some (.dic false ((tabG b g).map fun p => (eN p.1, eO p.2)))]) :=
    ev_dLcR (enc := eN) (E := fun o => [some (.d (ePl b)), some (.d xs), some (.cell st.length), some (.d (.int ((k : Int) + 1))), some (.d (eN n)), y5, y6, y7, some (.d (.lst ((ways b n s).map eN))), y9, some (.d (eN o))]) (p := fun o => (g o).isSome) (ways b n s) eN (by simp only [evs]) hw2 (by omega) (fun o ho => by simp only [evs])
      (fun o ho c w => by simp only [evs, hs1, ix_tab g (sub o ho), isNon_eO]; cases g o <;> rfl) (fun o ho _ c w => by simp only [evs])
  have hz : ∀ o ∈ ways b n s, ((g o).isSome && (match g o with | some v => decide (v < (k : Int) + 1) | none => false)) = (rk b s k o).isSome := fun o ho => by
    rcases hg o (sub o ho) with h | h
    · rw [h]
      cases q : rk b s k o with
      | none => rfl
      | some v => have := rk_le q; simp; omega
    · rw [h]
      cases q : rk b s k o with
      | some v =>
        have e : rk b s (k + 1) o = some v := by
          show (match rk b s k o with | some i => some i | none => _) = _
          rw [q]
        have := rk_le q
        rw [e]; simp; omega
      | none =>
        have e : rk b s (k + 1) o = if leadsP b s (fun o => (rk b s k o).isSome) o then some ((k : Int) + 1) else none := by
          show (match rk b s k o with | some i => some i | none => _) = _
          rw [q]
        rw [e]
        by_cases y : leadsP b s (fun o => (rk b s k o).isSome) o = true
        · rw [if_pos y]; simp
        · rw [if_neg y]; rfl
  have n2 : dLc (iSeq (dVar 9)) (tgN 10) (tCmp .lt (dIx (dVar 2) (dVar 10)) (dVar 3)) (dVar 10) [10] false [some (.d (ePl b)), some (.d xs), some (.cell st.length), some (.d (.int ((k : Int) + 1))), some (.d (eN n)), y5, y6, y7, some (.d (.lst ((ways b n s).map eN))), some (.d (.lst (((ways b n s).filter fun o => (g o).isSome).map eN))), y10] (st ++ [some (.dic false ((tabG b g).map fun p => (eN p.1, eO p.2)))]) =
      .ok (.d (.lst (((ways b n s).filter fun o => (rk b s k o).isSome).map eN))) (st ++ [some (.dic false ((tabG b g).map fun p => (eN p.1, eO p.2)))]) := by
    rw [ev_dLcR (enc := eN) (E := fun o => [some (.d (ePl b)), some (.d xs), some (.cell st.length), some (.d (.int ((k : Int) + 1))), some (.d (eN n)), y5, y6, y7, some (.d (.lst ((ways b n s).map eN))), some (.d (.lst (((ways b n s).filter fun o => (g o).isSome).map eN))), some (.d (eN o))]) (p := fun o => match g o with | some v => decide (v < (k : Int) + 1) | none => false) ((ways b n s).filter fun o => (g o).isSome) eN (by simp only [evs]) hw2 (by have := List.length_filter_le (fun o => (g o).isSome) (ways b n s); omega) (fun o ho => by simp only [evs])
      (fun o ho c w => by
        obtain ⟨h1, h2⟩ := List.mem_filter.mp ho
        obtain ⟨v, hv⟩ := Option.isSome_iff_exists.mp h2
        have e9 : eO (some v) = .int v := rfl
        simp only [evs, hs1, ix_tab g (sub o h1), hv, e9]) (fun o ho _ c w => by simp only [evs]), List.filter_filter]
    congr 4
    refine List.filter_congr fun o ho => ?_
    rw [Bool.and_comm]
    exact hz o ho
  have q0 : ∀ st, cmpD .ne (.lst (((ways b n s).filter fun o => (rk b s k o).isSome).map eN)) (.lst []) st = .ok (!((ways b n s).filter fun o => (rk b s k o).isSome).isEmpty) st := fun st => by
    rw [ev_ne _ _ _ (okQ_names0 fun o ho => ways_nm ok hn s o (List.mem_filter.mp ho).1), eqD_lst0]
  have hput : putI (.cell st.length) (.d (eN n)) (.d (.int ((k : Int) + 1))) (st ++ [some (.dic false ((tabG b g).map fun p => (eN p.1, eO p.2)))]) = .ok (.d .non) (st ++ [some (.dic false ((tabG b (upd g n (some ((k : Int) + 1)))).map fun p => (eN p.1, eO p.2)))]) := by
    rw [ev_putI (t := false) _ _ (last_get _ _) (isKey_eN n) (by rw [List.length_map, tab_len]; have := ok.len; omega), last_set]
    have := putNm eO (tabG b g) n (some ((k : Int) + 1))
    rw [show eO (some ((k : Int) + 1)) = .int ((k : Int) + 1) from rfl, dPut_tab g hn] at this
    rw [this]
  have same : rk b s (k + 1) n = g n → tabG b (upd g n (rk b s (k + 1) n)) = tabG b g := fun h => by
    rw [h]
    unfold tabG upd
    refine List.map_congr_left fun m _ => ?_
    by_cases z : m = n <;> simp [z]
  refine ⟨some (.d (.lst ((ways b n s).map eN))), some (.d (.lst (((ways b n s).filter fun o => (rk b s k o).isSome).map eN))), ?_⟩
  simp only [forStep, L__law_far_1, evs, hwy, n1, n2, hs0, ix_tab g hn, isNon_eO, hgn, q0]
  cases q : rk b s k n with
  | some v =>
    have e : rk b s (k + 1) n = g n := by
      rw [hgn]
      show (match rk b s k n with | some i => some i | none => _) = _
      rw [q]
    rw [same e]
    simp only [evs, Option.isNone_some]
  | none =>
    have e : rk b s (k + 1) n = if leadsP b s (fun o => (rk b s k o).isSome) n then some ((k : Int) + 1) else none := by
      show (match rk b s k n with | some i => some i | none => _) = _
      rw [q]
    have hl : leadsP b s (fun o => (rk b s k o).isSome) n = (!((ways b n s).filter fun o => (rk b s k o).isSome).isEmpty && (decide ((b.fl n).side = 1) || decide ((((ways b n s).filter fun o => (rk b s k o).isSome).length : Int) = ((ways b n s).length : Int)))) := by
      unfold leadsP
      rw [any_filter, all_filter]
      by_cases h1 : (b.fl n).side = 1
      · rw [if_pos h1]; simp [h1]
      · rw [if_neg h1]
        have h2 : (b.fl n).side = 2 := (ok.side n hn).resolve_left h1
        have hwn := rk_won q
        unfold wonAt at hwn
        rw [h2] at hwn
        cases w : (ways b n s).filter fun o => (rk b s k o).isSome with
        | cons a r =>
          have e1 : decide ((b.fl n).side = 1) = false := by simp [h1]
          rw [e1]
          simp only [List.isEmpty_cons, Bool.not_false, Bool.true_and, Bool.false_or]
          exact decide_eq_decide.mpr (by omega)
        | nil =>
          cases ww : ways b n s with
          | nil => rw [ww] at hwn; simp at hwn
          | cons a r => simp
    simp only [evs, Option.isNone_none]
    cases h1 : ((ways b n s).filter fun o => (rk b s k o).isSome).isEmpty with
    | true =>
      rw [h1] at hl
      rw [same (by rw [e, hl, hgn, q]; rfl)]
      simp only [evs]
    | false =>
      rw [h1] at hl
      simp only [evs, ix_pl0, ix_eRs hn, ix_rw0, List.length_map]
      by_cases h2 : (b.fl n).side = 1
      · rw [e, hl]
        simp only [evs, h2, hput, Bool.true_or]
      · by_cases h3 : (((ways b n s).filter fun o => (rk b s k o).isSome).length : Int) = ((ways b n s).length : Int)
        · rw [e, hl]
          simp only [evs, h2, h3, hput, Bool.or_true, ix_pl0, ix_eRs hn, ix_rw0, List.length_map]
        · rw [same (by rw [e, hl, hgn, q]; simp [h2, h3])]
          simp only [evs, h2, h3, ix_pl0, ix_eRs hn, ix_rw0, List.length_map]
theorem tabG_congr {g h : Str → Option Int} (e : ∀ n ∈ b.names, g n = h n) : tabG b g = tabG b h := by
  unfold tabG
  exact List.map_congr_left fun n hn => by rw [e n hn]
/-- a round -/
theorem far_round (k : Nat) (y4 y5 y6 y7 y8 y9 y10 : Option Val) :
    ∃ z4 z8 z9, L__law_far_2 [some (.d (ePl b)), some (.d xs), some (.cell st.length), some (.d (.int ((k : Int) + 1))), y4, y5, y6, y7, y8, y9, y10] (st ++ [some (.dic false ((tabG b (rk b s k)).map fun p => (eN p.1, eO p.2)))]) =
      .nx [some (.d (ePl b)), some (.d xs), some (.cell st.length), some (.d (.int ((k : Int) + 1))), z4, y5, y6, y7, z8, z9, y10] (st ++ [some (.dic false ((tabG b (rk b s (k + 1))).map fun p => (eN p.1, eO p.2)))]) := by
  have em : (eRs b.lines).map (fun x => x.1) = b.names.map eN := by rw [keys_eRs]; unfold Bd.names; rw [List.map_map]; rfl
  have loop := nx_for0 (g := tgN 4) (p := L__law_far_1) (enc := eN) (I := fun pr e s' => ∃ g z4 z8 z9, (∀ o ∈ b.names, g o = if o ∈ pr then rk b s (k + 1) o else rk b s k o) ∧ e = [some (.d (ePl b)), some (.d xs), some (.cell st.length), some (.d (.int ((k : Int) + 1))), z4, y5, y6, y7, z8, z9, y10] ∧ s' = st ++ [some (.dic false ((tabG b g).map fun p => (eN p.1, eO p.2)))]) b.names
    (e := [some (.d (ePl b)), some (.d xs), some (.cell st.length), some (.d (.int ((k : Int) + 1))), y4, y5, y6, y7, y8, y9, y10]) (s := st ++ [some (.dic false ((tabG b (rk b s k)).map fun p => (eN p.1, eO p.2)))]) ⟨rk b s k, _, _, _, fun o _ => by rw [if_neg (by simp)], rfl, rfl⟩ (by
      rintro pr n post e s' hp ⟨g, z4, z8, z9, hg, rfl, rfl⟩
      have hn : n ∈ b.names := by rw [hp]; simp
      have hnew : n ∉ pr := by
        have nd := ok.nd
        rw [hp, List.nodup_append] at nd
        exact fun z => nd.2.2 _ z n (by simp) rfl
      obtain ⟨w8, w9, h⟩ := far_turn1 ok hs hw (k := k) hn (g := g) (by rw [hg n hn, if_neg hnew]) (fun o ho => by rw [hg o ho]; by_cases z : o ∈ pr <;> simp [z]) z4 y5 y6 y7 z8 z9 y10
      refine Nx.eq h ⟨upd g n (rk b s (k + 1) n), _, _, _, fun o ho => ?_, rfl, rfl⟩
      unfold upd
      by_cases z : o = n
      · subst z; simp
      · rw [if_neg z, hg o ho]
        have : (o ∈ pr ++ [n]) ↔ o ∈ pr := by simp [z]
        by_cases y : o ∈ pr
        · rw [if_pos y, if_pos (this.mpr y)]
        · rw [if_neg y, if_neg fun w => y (this.mp w)])
  obtain ⟨e, s', h, g, z4, z8, z9, hg, rfl, rfl⟩ := loop
  refine ⟨z4, z8, z9, ?_⟩
  simp only [L__law_far_2, evs, ix_pl0, em, h]
  rw [tabG_congr ok hs hw (g := g) (h := rk b s (k + 1)) fun n hn => by rw [hg n hn, if_pos hn]]
theorem far_rounds (y4 y5 y6 y7 y8 y9 y10 : Option Val) (m : Nat) : ∀ (k : Nat) (x3 x4 x8 x9 : Option Val),
    ∃ z3 z4 z8 z9, forL (tgN 3) L__law_far_2 (upto ((k : Int) + 1) m) [some (.d (ePl b)), some (.d xs), some (.cell st.length), x3, x4, y5, y6, y7, x8, x9, y10] (st ++ [some (.dic false ((tabG b (rk b s k)).map fun p => (eN p.1, eO p.2)))]) =
      .nx [some (.d (ePl b)), some (.d xs), some (.cell st.length), z3, z4, y5, y6, y7, z8, z9, y10] (st ++ [some (.dic false ((tabG b (rk b s (k + m))).map fun p => (eN p.1, eO p.2)))]) := by
  induction m with
  | zero => intro k x3 x4 x8 x9; exact ⟨x3, x4, x8, x9, rfl⟩
  | succ m ih =>
    intro k x3 x4 x8 x9
    have e : upto ((k : Int) + 1) (m + 1) = .int ((k : Int) + 1) :: upto (((k + 1 : Nat) : Int) + 1) m := by
      unfold upto
      rw [List.range_succ_eq_map, List.map_cons, List.map_map]
      simp only [Int.natCast_zero, Int.add_zero]
      congr 1
      refine List.map_congr_left fun x _ => ?_
      show D.int ((k : Int) + 1 + ((x + 1 : Nat) : Int)) = .int (((k + 1 : Nat) : Int) + 1 + (x : Int))
      congr 1
      omega
    obtain ⟨z4, z8, z9, h1⟩ := far_round ok hs hw k x4 y5 y6 y7 x8 x9 y10
    obtain ⟨w3, w4, w8, w9, h2⟩ := ih (k + 1) (some (.d (.int ((k : Int) + 1)))) z4 z8 z9
    refine ⟨w3, w4, w8, w9, ?_⟩
    rw [e]
    show (match forStep (tgN 3) L__law_far_2 (.int ((k : Int) + 1)) _ _ with | .nx e' s' => forL (tgN 3) L__law_far_2 (upto (((k + 1 : Nat) : Int) + 1) m) e' s' | .ct e' s' => forL (tgN 3) L__law_far_2 (upto (((k + 1 : Nat) : Int) + 1) m) e' s' | .bk e' s' => .nx e' s' | r => r) = _
    have h3 : forStep (tgN 3) L__law_far_2 (.int ((k : Int) + 1)) [some (.d (ePl b)), some (.d xs), some (.cell st.length), x3, x4, y5, y6, y7, x8, x9, y10] (st ++ [some (.dic false ((tabG b (rk b s k)).map fun p => (eN p.1, eO p.2)))]) = .nx [some (.d (ePl b)), some (.d xs), some (.cell st.length), some (.d (.int ((k : Int) + 1))), z4, y5, y6, y7, z8, z9, y10] (st ++ [some (.dic false ((tabG b (rk b s (k + 1))).map fun p => (eN p.1, eO p.2)))]) := h1
    rw [h3]
    show forL (tgN 3) L__law_far_2 _ _ _ = _
    rw [h2, show k + 1 + m = k + (m + 1) by omega]
theorem L_farX : G__law_far [.d (ePl b), .d xs] [] st = .ok (.d (eDo (distances b s))) st := by
  obtain ⟨y4, y5, y6, y7, h0⟩ := far_loop0 ok hs hw
  obtain ⟨z3, z4, z8, z9, h1⟩ := far_rounds ok hs hw y4 y5 y6 y7 none none none b.lines.length 0 (some (.d (.int 0))) y4 none none
  have em : (eRs b.lines).map (fun x => x.1) = b.names.map eN := by rw [keys_eRs]; unfold Bd.names; rw [List.map_map]; rfl
  have el : (eRs b.lines).length = b.lines.length := by unfold eRs; rw [List.length_map]
  have er : ∀ s, rng2 [.d (.int 1), .d (.int ((b.lines.length : Int) + 1))] s = .ok (.its (upto (((0 : Nat) : Int) + 1) b.lines.length)) s := fun s => by
    rw [ev_rng2 s _ _ (by have := ok.len; omega)]
    congr 3
    omega
  have hz : ∀ e, frzV e 2 st.length (st ++ [some (.dic false ((tabG b (rk b s b.lines.length)).map fun p => (eN p.1, eO p.2)))]) = .nx (e.set 2 (some (.d (eDo (tabG b (rk b s b.lines.length)))))) (st ++ [none]) := fun e => by
    rw [frzV_dic _ _ _ _ _ _ (last_get _ _), last_set]
    rfl
  rw [Nat.zero_add] at h1
  have ed : distances b s = tabG b (rk b s b.lines.length) := by
    unfold distances tabG
    exact List.map_congr_left fun n hn => by rw [dist_rk ok (Nat.le_refl _) hn]
  simp only [G__law_far, dS__law_far, evs, Nat.reduceSub, List.reduceReplicate, ix_pl0, em, el, h0, er, h1, hz, ed]
  rw [trunc_app hw]
end
theorem L_far {b : Bd} (ok : OkB b) {s : List Mv} (hs : SOk s) {st : Sto} (hw : Wf st) : G__law_far [.d (ePl b), .d (eS s)] [] st = .ok (.d (eDo (distances b s))) st := L_farX ok (.tup hs) hw
end Pg
/-! FrG -/
/-! FrG: family B: ranks and traps by the law. -/
namespace Pg
open PySem Fb Lb
theorem keys_look {r : List (Str × Int)} {n : Str} (h : n ∈ keys r) : ∃ v, r.lookup n = some v := let ⟨v, e, _⟩ := lookup_mem h; ⟨v, e⟩
def below (r : List (Str × Int)) (n o : Str) : Bool := match r.lookup o, r.lookup n with | some x, some y => decide (x < y) | _, _ => false
section
variable {b : Bd} (ok : OkB b) {s : List Mv} (hs : SOk s) {st : Sto} (hw : Wf st)
include ok hs hw
theorem L_are_ranks {r : List (Str × Int)} (hr : ∀ n ∈ keys r, n ∈ b.names) : G__law_are_ranks [.d (ePl b), .d (eS s), .d (eDi r)] [] st = .ok (.d (.bl (ranksOk b s r))) st := by
  have loop := forL_chk (J := fun s' => st = s') (g := tgN 3) (p := L__law_are_ranks_0) (enc := eN) (I := fun e s' => (∃ y3 y4 y5 y6 y7 y8, e = [some (.d (ePl b)), some (.d (eS s)), some (.d (eDi r)), y3, y4, y5, y6, y7, y8, none]) ∧ st = s') (q := rankOk b s r) (v := .d (.bl false)) (keys r)
    [some (.d (ePl b)), some (.d (eS s)), some (.d (eDi r)), none, none, none, none, none, none, none] st ⟨⟨_, _, _, _, _, _, rfl⟩, rfl⟩ (by
      rintro n e s' hn ⟨⟨y3, y4, y5, y6, y7, y8, rfl⟩, rfl⟩
      have hnb := hr n hn
      obtain ⟨y, hy⟩ := keys_look hn
      have hwy := L_ways ok hw hnb hs
      have wl := ways_len ok hnb s
      have near : dLc (iSeq (dVar 7)) (tgN 9) (tAnd (tCmp .inn (dVar 9) (dVar 2)) (tCmp .lt (dIx (dVar 2) (dVar 9)) (dIx (dVar 2) (dVar 3)))) (dVar 9) [9] false [some (.d (ePl b)), some (.d (eS s)), some (.d (eDi r)), some (.d (eN n)), some (.d (.int (b.fl n).side)), some (.d (.tup ((b.fl n).aims.map eN))), some (.d (.bl (b.fl n).goal)), some (.d (.lst ((ways b n s).map eN))), y8, none] st =
          .ok (.d (.lst (((ways b n s).filter fun o => below r n o).map eN))) st :=
        ev_dLc (enc := eN) (E := fun o => [some (.d (ePl b)), some (.d (eS s)), some (.d (eDi r)), some (.d (eN n)), some (.d (.int (b.fl n).side)), some (.d (.tup ((b.fl n).aims.map eN))), some (.d (.bl (b.fl n).goal)), some (.d (.lst ((ways b n s).map eN))), y8, some (.d (eN o))]) (p := fun o => below r n o) (ways b n s) eN (by simp only [evs]) hw (by omega) (fun o ho => by simp only [evs])
          (fun o ho s2 w => by
            unfold below
            simp only [evs, in_keys, hy]
            by_cases z : o ∈ keys r
            · obtain ⟨x, hx⟩ := keys_look z
              simp only [evs, z, ix_eDi hx, ix_eDi hy, hx]
            · have : r.lookup o = none := lookup_none z
              simp only [evs, z, this]) (fun o ho _ s2 w => by simp only [evs])
      have q0 : ∀ st, cmpD .eq (.lst (((ways b n s).filter fun o => below r n o).map eN)) (.lst []) st = .ok ((ways b n s).filter fun o => below r n o).isEmpty st := fun st => by
        rw [ev_eq _ _ _ (okQ_names0 fun o ho => ways_nm ok hnb s o (List.mem_filter.mp ho).1), eqD_lst0]
      have eq : rankOk b s r n = ((b.fl n).goal || (if (b.fl n).side = 1 then !((ways b n s).filter fun o => below r n o).isEmpty else !decide ((((ways b n s).filter fun o => below r n o).length : Int) < ((ways b n s).length : Int)))) := by
        have e : rankOk b s r n = ((b.fl n).goal || (if (b.fl n).side = 1 then (ways b n s).any fun o => below r n o else (ways b n s).all fun o => below r n o)) := rfl
        rw [e, any_filter, all_filter]
        have hl := List.length_filter_le (fun o => below r n o) (ways b n s)
        congr 2
        rw [← decide_not]
        exact decide_eq_decide.mpr (by omega)
      rw [eq]
      have step : forStep (tgN 3) L__law_are_ranks_0 (eN n) [some (.d (ePl b)), some (.d (eS s)), some (.d (eDi r)), y3, y4, y5, y6, y7, y8, none] st = if ((b.fl n).goal || (if (b.fl n).side = 1 then !((ways b n s).filter fun o => below r n o).isEmpty else !decide ((((ways b n s).filter fun o => below r n o).length : Int) < ((ways b n s).length : Int)))) = true then
          .nx [some (.d (ePl b)), some (.d (eS s)), some (.d (eDi r)), some (.d (eN n)), some (.d (.int (b.fl n).side)), some (.d (.tup ((b.fl n).aims.map eN))), some (.d (.bl (b.fl n).goal)), some (.d (.lst ((ways b n s).map eN))), some (.d (.lst (((ways b n s).filter fun o => below r n o).map eN))), none] st else .rt (.d (.bl false)) st := by
        simp only [forStep, L__law_are_ranks_0, evs, ix_pl0, ix_eRs hnb, unp_rw [4, 5, 6] rfl, hwy, near, q0, List.length_map]
        cases (b.fl n).goal with
        | true => simp only [evs, Bool.true_or]
        | false =>
          by_cases h1 : (b.fl n).side = 1
          · simp only [evs, h1, Bool.false_or]
            cases ((ways b n s).filter fun o => below r n o).isEmpty <;> simp only [evs]
          · simp only [evs, h1, Bool.false_or, q0, List.length_map]
            by_cases h2 : (((ways b n s).filter fun o => below r n o).length : Int) < ((ways b n s).length : Int) <;> simp only [evs, h2]
      rw [step]
      refine ⟨fun h => ?_, fun h => ?_⟩
      · rw [if_pos h]
        exact ⟨_, _, rfl, ⟨_, _, _, _, _, _, rfl⟩, rfl⟩
      · rw [h, if_neg Bool.false_ne_true]
        exact ⟨_, rfl, rfl⟩)
  unfold ranksOk
  have ek : (List.map (fun p => (eN p.1, D.int p.2)) r).map (fun x => x.1) = (keys r).map eN := by unfold keys; rw [List.map_map, List.map_map]; rfl
  simp only [G__law_are_ranks, dS__law_are_ranks, evs, Nat.reduceSub, List.reduceReplicate, ix_pl1, in_keys, src_eDi]
  by_cases h1 : b.start ∈ keys r
  · simp only [evs, h1, src_eDi]
    cases h2 : (keys r).all (rankOk b s r) with
    | true =>
      obtain ⟨e', s', h3, ⟨_, _, _, _, _, _, h4⟩, h5⟩ := loop.1 h2
      rw [h3, h4, ← h5]
      simp only [evs, trunc_self hw]
    | false =>
      obtain ⟨s', h3, h5⟩ := loop.2 h2
      rw [h3, ← h5]
      simp only [evs, trunc_self hw]
  · simp only [evs, h1, trunc_self hw]
end
theorem lookup_nd {α β : Type} [BEq α] [LawfulBEq α] {p : α × β} : ∀ {l : List (α × β)}, (l.map (·.1)).Nodup → p ∈ l → l.lookup p.1 = some p.2
  | [], _, h => by cases h
  | q :: r, nd, h => by
    rw [List.map_cons, List.nodup_cons] at nd
    rw [List.lookup_cons]
    rcases List.mem_cons.mp h with z | z
    · subst z; simp
    · have h2 : (p.1 == q.1) = false := by
        rw [beq_eq_false_iff_ne]
        intro y
        exact nd.1 (by rw [← y]; exact List.mem_map_of_mem z)
      rw [h2]
      exact lookup_nd nd.2 z
theorem inL_non : ∀ l : List Str, inL .non (l.map eN) = false
  | [] => rfl
  | _ :: r => inL_non r
theorem ix_eTr {t : Tr} {n : Str} {v : Option Str} (h : t.lookup n = some v) (s : Sto) : ixD (eTr t) (eN n) s = .ok (eOs v) s := by
  unfold eTr
  rw [ev_ixK _ _ _ _ (isKey_eN _), look_names eOs, h]
  rfl
theorem src_eTr (t : Tr) (s : Sto) : srcOf (.d (eTr t)) s = .ok (.its (t.map fun p => eN p.1)) s := by
  show Rs.ok (Src.its ((t.map fun p => (eN p.1, eOs p.2)).map (·.1))) s = _
  rw [List.map_map]
  rfl
theorem in_aims0 {l : List Str} (hl : ∀ y ∈ l, Nm y) (s : Sto) : inD (eOs none) (.tup (l.map eN)) s = .ok false s := by
  show inD .non _ s = _
  rw [ev_inT _ _ _ rfl (all_names hl), inL_non]
section
variable {b : Bd} (ok : OkB b) {st : Sto} (hw : Wf st) {t : Tr} (ht : TrOk b t)
include ok hw ht
theorem L_is_trap : G__law_is_trap [.d (ePl b), .d (eTr t)] [] st = .ok (.d (.bl (trapOk b t))) st := by
  have loop := forL_chk (g := tgN 2) (p := L__law_is_trap_0) (enc := fun p : Str × Option Str => eN p.1) (I := fun e s' => (∃ y2 y3 y4 y5, e = [some (.d (ePl b)), some (.d (eTr t)), y2, y3, y4, y5]) ∧ st = s') (J := fun s' => st = s') (q := trapOk1 b t) (v := .d (.bl false)) t
    [some (.d (ePl b)), some (.d (eTr t)), none, none, none, none] st ⟨⟨_, _, _, _, rfl⟩, rfl⟩ (by
      rintro p e s' hp ⟨⟨y2, y3, y4, y5, rfl⟩, rfl⟩
      obtain ⟨n, v⟩ := p
      have hnb : n ∈ b.names := ht.k _ hp
      have hlk : t.lookup n = some v := lookup_nd ht.nd hp
      have hnm : ∀ a ∈ (b.fl n).aims, Nm a := fun a ha => ok.aim_nm hnb ha
      have hia0 := fun s => in_aims0 hnm s
      have hia1 := fun o (ho : v = some o) s => ev_inT_nm o _ s (ok.nm o (ht.v _ hp o ho)) hnm
      have step : forStep (tgN 2) L__law_is_trap_0 (eN n) [some (.d (ePl b)), some (.d (eTr t)), y2, y3, y4, y5] st = if trapOk1 b t (n, v) = true then
          .nx [some (.d (ePl b)), some (.d (eTr t)), some (.d (eN n)), some (.d (.int (b.fl n).side)), some (.d (.tup ((b.fl n).aims.map eN))), some (.d (.bl (b.fl n).goal))] st else .rt (.d (.bl false)) st := by
        unfold trapOk1
        simp only [forStep, L__law_is_trap_0, evs, ix_pl0, ix_eRs hnb, unp_rw [3, 4, 5] rfl]
        cases (b.fl n).goal with
        | true => simp only [evs]
        | false =>
          by_cases h1 : (b.fl n).side = 1
          · have h2 : ¬ (b.fl n).side = 2 := by omega
            have h12 : ¬ (1 : Int) = 2 := by decide
            cases v with
            | none => simp only [evs, h1, h12, ix_eTr hlk, isNonD_eOs, Option.isNone_none, beq_self_eq_true]
            | some o => simp only [evs, h1, ix_eTr hlk, isNonD_eOs, Option.isNone_some, Bool.true_beq]
          · have h2 : (b.fl n).side = 2 := (ok.side n hnb).resolve_left h1
            have h21 : ¬ (2 : Int) = 1 := by decide
            cases v with
            | none => simp only [evs, h2, h21, ix_eTr hlk, hia0, Option.isNone_none, Bool.false_beq]
            | some o =>
              have e1 : eOs (some o) = eN o := rfl
              by_cases h3 : o ∈ (b.fl n).aims
              · by_cases h4 : o ∈ tkeys t <;> simp only [evs, h2, h21, ix_eTr hlk, hia1 o rfl, h3, h4, in_eTr, e1, Option.isNone_some, beq_self_eq_true]
              · simp only [evs, h2, h21, ix_eTr hlk, hia1 o rfl, h3, e1, Option.isNone_some, beq_self_eq_true]
      rw [step]
      refine ⟨fun h => ?_, fun h => ?_⟩
      · rw [if_pos h]
        exact ⟨_, _, rfl, ⟨_, _, _, _, rfl⟩, rfl⟩
      · rw [h, if_neg Bool.false_ne_true]
        exact ⟨_, rfl, rfl⟩)
  unfold trapOk
  simp only [G__law_is_trap, dS__law_is_trap, evs, Nat.reduceSub, List.reduceReplicate, ix_pl1, in_eTr]
  by_cases h1 : b.start ∈ tkeys t
  · simp only [evs, h1, src_eTr]
    cases h2 : t.all (trapOk1 b t) with
    | true =>
      obtain ⟨e', s', h3, ⟨_, _, _, _, h4⟩, h5⟩ := loop.1 h2
      rw [h3, h4, ← h5]
      simp only [evs, trunc_self hw]
    | false =>
      obtain ⟨s', h3, h5⟩ := loop.2 h2
      rw [h3, ← h5]
      simp only [evs, trunc_self hw]
  · simp only [evs, h1, trunc_self hw]
theorem L_holds {s : List Mv} (hs : SOk s) : G__law_holds [.d (ePl b), .d (eS s), .d (eTr t)] [] st = .ok (.d (.bl (holdsT b s t))) st := by
  have hit := L_is_trap ok hw ht
  unfold holdsT
  cases hok : trapOk b t with
  | false =>
    rw [hok] at hit
    simp only [G__law_holds, dS__law_holds, evs, Nat.reduceSub, List.reduceReplicate, hit, trunc_self hw]
  | true =>
    rw [hok] at hit
    have loop := forL_chk (g := tgN 3) (p := L__law_holds_0) (enc := fun p : Str × Option Str => eN p.1) (I := fun e s' => (∃ y3, e = [some (.d (ePl b)), some (.d (eS s)), some (.d (eTr t)), y3, none]) ∧ st = s') (J := fun s' => st = s') (q := holdsAg1 b s t) (v := .d (.bl false)) t
      [some (.d (ePl b)), some (.d (eS s)), some (.d (eTr t)), none, none] st ⟨⟨_, rfl⟩, rfl⟩ (by
        rintro p e s' hp ⟨⟨y3, rfl⟩, rfl⟩
        have hp1 : trapOk1 b t p = true := by
          unfold trapOk at hok
          rw [Bool.and_eq_true, List.all_eq_true] at hok
          exact hok.2 p hp
        obtain ⟨n, v⟩ := p
        have hnb : n ∈ b.names := ht.k _ hp
        have hlk : t.lookup n = some v := lookup_nd ht.nd hp
        have hwy := L_ways ok hw hnb hs
        have wl := ways_len ok hnb s
        have step : forStep (tgN 3) L__law_holds_0 (eN n) [some (.d (ePl b)), some (.d (eS s)), some (.d (eTr t)), y3, none] st = if holdsAg1 b s t (n, v) = true then
            .nx [some (.d (ePl b)), some (.d (eS s)), some (.d (eTr t)), some (.d (eN n)), none] st else .rt (.d (.bl false)) st := by
          unfold trapOk1 at hp1
          unfold holdsAg1
          have lc : dLc (iSeq (dCallG G__law_ways (dCons (dVar 0) (dCons (dVar 3) (dCons (dVar 1) (dNil)))))) (tgN 4) (tYs) (tV (tCmp .inn (dVar 4) (dVar 2))) [4] false [some (.d (ePl b)), some (.d (eS s)), some (.d (eTr t)), some (.d (eN n)), none] st = .ok (.d (.lst ((ways b n s).map fun o => .bl (decide (o ∈ tkeys t))))) st := by
            rw [ev_dLc (enc := eN) (E := fun o => [some (.d (ePl b)), some (.d (eS s)), some (.d (eTr t)), some (.d (eN n)), some (.d (eN o))]) (p := fun _ => true) (ways b n s) (fun o => .bl (decide (o ∈ tkeys t))) (by simp only [evs, hwy]) hw (by omega) (fun o ho => by simp only [evs]) (fun o ho s2 w => by simp only [evs]) (fun o ho _ s2 w => by simp only [evs, in_eTr]), filter_tt]
          simp only [forStep, L__law_holds_0, evs, ix_pl0, ix_eRs hnb, ix_rw0]
          by_cases h1 : (b.fl n).side = 1
          · have h12 : ¬ (1 : Int) = 2 := by decide
            cases v with
            | some o => simp [h1] at hp1
            | none =>
              simp only [evs, h1, h12, ix_pl0, ix_eRs hnb, ix_rw0, lc]
              cases (ways b n s).all fun o => decide (o ∈ tkeys t) <;> simp only [evs]
          · have h2 : (b.fl n).side = 2 := (ok.side n hnb).resolve_left h1
            have h21 : ¬ (2 : Int) = 1 := by decide
            cases v with
            | none => simp [h2] at hp1
            | some o =>
              have e1 : eOs (some o) = eN o := rfl
              have h3 := isData_eM (n := 6) (m := (n, o)) ⟨ok.nm n hnb, ok.nm o (ht.v _ hp o rfl)⟩
              have h4 : ∀ st, inD (eM (n, o)) (eS s) st = .ok (decide ((n, o) ∈ s)) st := fun st => by
                unfold eS
                rw [ev_inT _ _ _ h3 (all_moves hs), inL_moves]
              by_cases h5 : (n, o) ∈ s <;> simp only [evs, h2, h21, ix_eTr hlk, e1, tup_eM, h4, h5, ix_pl0, ix_eRs hnb, ix_rw0]
        rw [step]
        refine ⟨fun h => ?_, fun h => ?_⟩
        · rw [if_pos h]
          exact ⟨_, _, rfl, ⟨_, rfl⟩, rfl⟩
        · rw [h, if_neg Bool.false_ne_true]
          exact ⟨_, rfl, rfl⟩)
    unfold holdsAg
    simp only [G__law_holds, dS__law_holds, evs, Nat.reduceSub, List.reduceReplicate, hit, src_eTr]
    cases h2 : t.all (holdsAg1 b s t) with
    | true =>
      obtain ⟨e', s', h3, ⟨_, h4⟩, h5⟩ := loop.1 h2
      rw [h3, h4, ← h5]
      simp only [evs, trunc_self hw]
    | false =>
      obtain ⟨s', h3, h5⟩ := loop.2 h2
      rw [h3, ← h5]
      simp only [evs, trunc_self hw]
end
end Pg
/-! FrI -/
/-! FrI: family B: all sets. -/
namespace Pg
open PySem Fb Lb
section
variable {b : Bd} (ok : OkB b) {st : Sto} (hw : Wf st)
include ok hw
theorem lsets_turn {s : List Mv} (hs : ∀ m ∈ s, m ∈ b.moves) (hl : s.length ≤ 6) (v2 v3 y5 y6 y7 : Option Val) (acc : List (List Mv)) (ha : acc.length ≤ 300000) :
    ∃ z6, forStep (tgN 5) L__law_sets_0 (eS s) [some (.d (ePl b)), some (.d (.lst (b.moves.map eM))), v2, v3, some (.d (.lst (acc.map eS))), y5, y6, y7] st =
      .nx [some (.d (ePl b)), some (.d (.lst (b.moves.map eM))), v2, v3, some (.d (.lst ((acc ++ nxt b.moves s).map eS))), some (.d (eS s)), z6, y7] st := by
  have hs' := ok.sok hs
  have hmv : SOk b.moves := ok.sok fun m h => h
  have hmvl := ok.mvl
  have e0 : okQ (eS s) (.tup []) = true := by
    unfold okQ eS
    rw [isData_tup, all_moves hs']
    rfl
  have e1 : ∀ st, cmpD .ne (eS s) (.tup []) st = .ok (!s.isEmpty) st := fun st => by rw [ev_ne _ _ _ e0]; exact congrArg (fun z => Rs.ok (!z) st) (eqD_tup0 eM s)
  have main : ∀ k : Nat, dLc (iSeq (dSl2 (dVar 1) (oSome (dVar 6)) (oNone))) (tgN 7) (tYs) (dBin .add (dVar 5) (dTup (dCons (dVar 7) (dNil)))) [7] false [some (.d (ePl b)), some (.d (.lst (b.moves.map eM))), v2, v3, some (.d (.lst (acc.map eS))), some (.d (eS s)), some (.d (.int (k : Nat))), y7] st =
      .ok (.d (.lst (((b.moves.drop k).map fun m => s ++ [m]).map eS))) st := fun k => by
    rw [ev_dLc (enc := eM) (E := fun m => [some (.d (ePl b)), some (.d (.lst (b.moves.map eM))), v2, v3, some (.d (.lst (acc.map eS))), some (.d (eS s)), some (.d (.int (k : Nat))), some (.d (eM m))]) (p := fun _ => true) (b.moves.drop k) (fun m => eS (s ++ [m])) (by simp only [evs, cut_from, List.map_drop]) hw (by rw [List.length_drop]; omega) (fun m hm => by simp only [evs]) (fun m hm s2 w => by simp only [evs]) (fun m hm _ s2 w => by
      have e5 : ∀ st, binD .add (eS s) (.tup [eM m]) st = .ok (eS (s ++ [m])) st := fun st => by
        unfold eS
        rw [ev_addT _ _ _ (by rw [List.length_map]; unfold PySem.sizeLine; simp; omega), List.map_append]
        rfl
      simp only [evs, e5]), filter_tt, List.map_map]
    rfl
  have hadd : ∀ k : Nat, nxt b.moves s = ((b.moves.drop k).map fun m => s ++ [m]) → ∀ st, binD .add (.lst (acc.map eS)) (.lst (((b.moves.drop k).map fun m => s ++ [m]).map eS)) st = .ok (.lst ((acc ++ nxt b.moves s).map eS)) st := fun k hk st => by
    rw [ev_addL _ _ _ (by rw [List.length_map, List.length_map, List.length_map, List.length_drop]; unfold PySem.sizeLine; omega), hk, List.map_append]
  simp only [forStep, L__law_sets_0, evs, e1]
  cases hz : s.isEmpty with
  | true =>
    have hs0 := List.isEmpty_iff.mp hz
    have hk : nxt b.moves s = ((b.moves.drop 0).map fun m => s ++ [m]) := by rw [hs0]; rfl
    have m0 := main 0
    rw [show (((0 : Nat) : Int)) = 0 from rfl] at m0
    exact ⟨some (.d (.int 0)), by simp only [evs, m0, hadd 0 hk]⟩
  | false =>
    have hne : s ≠ [] := fun e => by rw [e] at hz; cases hz
    obtain ⟨s0, m, es⟩ : ∃ s0 m, s = s0 ++ [m] := ⟨s.dropLast, s.getLast hne, (List.dropLast_concat_getLast hne).symm⟩
    have hmm : m ∈ b.moves := hs m (by rw [es]; simp)
    have e6 : ∀ st, ixD (eS s) (.int (-1)) st = .ok (eM m) st := fun st => by
      rw [es]
      show optM (atD ((s0 ++ [m]).map eM) (-1)) _ = _
      rw [List.map_append]
      show optM (atD (s0.map eM ++ [eM m]) (-1)) _ = _
      rw [atD_last]
      rfl
    have e7 : ∀ st, isTg isL (.d (.lst (b.moves.map eM))) st = .ok () st := fun st => rfl
    have hk : nxt b.moves s = ((b.moves.drop (b.moves.idxOf m + 1)).map fun m => s ++ [m]) := by
      unfold nxt
      rw [es]
      simp
    have m1 := main (b.moves.idxOf m + 1)
    rw [show (((b.moves.idxOf m + 1 : Nat)) : Int) = ((b.moves.idxOf m : Nat) : Int) + 1 from rfl] at m1
    exact ⟨some (.d (.int (((b.moves.idxOf m : Nat) : Int) + 1))), by simp only [evs, e6, e7, ev_index hmm hmv, m1, hadd _ hk]⟩
theorem lsets_T {l : List (List Mv)} (hl : ∀ s ∈ l, ∀ m ∈ s, m ∈ b.moves) (e1 e2 e3 x4 x5 x6 x7 : Option Val) (s : Sto) : T__law_sets_1 [e1, e2, e3, some (.d (.lst (l.map eS))), x4, x5, x6, x7] s = .ok (!l.isEmpty) s := T_sets ok hw hl e1 e2 e3 x4 x5 x6 x7 s
theorem lsets_while : ∀ (m k : Nat) (f l : List (List Mv)) (x4 x5 x6 x7 : Option Val), SInv b.moves k f l → (l ≠ [] → 8 ≤ m + k) → 0 < m →
    ∃ y3 y4 y5 y6 y7, whileD T__law_sets_1 L__law_sets_2 m [some (.d (ePl b)), some (.d (.lst (b.moves.map eM))), some (.d (.lst (f.map eS))), some (.d (.lst (l.map eS))), x4, x5, x6, x7] st =
      .nx [some (.d (ePl b)), some (.d (.lst (b.moves.map eM))), some (.d (.lst ((setsL b.moves m f l).map eS))), y3, y4, y5, y6, y7] st := by
  intro m
  induction m with
  | zero => intro k f l x4 x5 x6 x7 inv hk hz; exact absurd hz (Nat.lt_irrefl 0)
  | succ m ih =>
    intro k f l x4 x5 x6 x7 inv hk hz
    have hl : ∀ s ∈ l, ∀ m ∈ s, m ∈ b.moves := fun s hs => (inv.hl s hs).1
    have ht := lsets_T ok hw hl (some (.d (ePl b))) (some (.d (.lst (b.moves.map eM)))) (some (.d (.lst (f.map eS)))) x4 x5 x6 x7 st
    unfold setsL
    cases q : l.isEmpty with
    | true =>
      rw [q] at ht
      rw [ev_whileF ht]
      exact ⟨_, _, _, _, _, rfl⟩
    | false =>
      rw [q] at ht
      rw [if_neg Bool.false_ne_true]
      have hne : l ≠ [] := fun e => by rw [e] at q; cases q
      have hk := hk hne
      have hk6 := inv.small ok.mnd ok.mvl hne
      have hp : 6 ^ k ≤ 46656 := by
        have : 6 ^ k ≤ 6 ^ 6 := Nat.pow_le_pow_right (by decide) hk6
        have e : 6 ^ 6 = 46656 := by decide
        omega
      have hll := inv.ll
      have hfl := inv.fl
      have hflat := flat_len ok.mnd ok.mvl l
      have loop := nx_for0 (g := tgN 5) (p := L__law_sets_0) (enc := eS) (I := fun pr e s' => ∃ y5 y6, pr.length ≤ l.length ∧ e = [some (.d (ePl b)), some (.d (.lst (b.moves.map eM))), some (.d (.lst (f.map eS))), some (.d (.lst (l.map eS))), some (.d (.lst ((pr.flatMap (nxt b.moves)).map eS))), y5, y6, x7] ∧ st = s') l
        (e := [some (.d (ePl b)), some (.d (.lst (b.moves.map eM))), some (.d (.lst (f.map eS))), some (.d (.lst (l.map eS))), some (.d (.lst [])), x5, x6, x7]) (s := st) ⟨_, _, Nat.zero_le _, rfl, rfl⟩ (by
          rintro pr u post e s' hp2 ⟨y5, y6, hpl, rfl, rfl⟩
          have hu : u ∈ l := by rw [hp2]; simp
          have h1 := flat_len ok.mnd ok.mvl pr
          obtain ⟨z6, h2⟩ := lsets_turn ok hw (inv.hl u hu).1 (by have := (inv.hl u hu).2.1; omega) (some (.d (.lst (f.map eS)))) (some (.d (.lst (l.map eS)))) y5 y6 x7 (pr.flatMap (nxt b.moves)) (by omega)
          refine Nx.eq h2 ⟨some (.d (eS u)), z6, by rw [hp2]; simp, ?_, rfl⟩
          rw [List.flatMap_append, List.flatMap_cons, List.flatMap_nil, List.append_nil])
      obtain ⟨e, s', h1, y5, y6, _, rfl, rfl⟩ := loop
      have hadd : ∀ st, binD .add (.lst (f.map eS)) (.lst ((l.flatMap (nxt b.moves)).map eS)) st = .ok (.lst ((f ++ l.flatMap (nxt b.moves)).map eS)) st := fun st => by
        rw [ev_addL _ _ _ (by rw [List.length_map, List.length_map]; unfold PySem.sizeLine; omega), List.map_append]
      have hb : L__law_sets_2 [some (.d (ePl b)), some (.d (.lst (b.moves.map eM))), some (.d (.lst (f.map eS))), some (.d (.lst (l.map eS))), x4, x5, x6, x7] st =
          .nx [some (.d (ePl b)), some (.d (.lst (b.moves.map eM))), some (.d (.lst ((f ++ l.flatMap (nxt b.moves)).map eS))), some (.d (.lst ((l.flatMap (nxt b.moves)).map eS))), some (.d (.lst ((l.flatMap (nxt b.moves)).map eS))), y5, y6, x7] st := by
        simp only [L__law_sets_2, evs, h1, hadd]
      rw [ev_whileT ht hb]
      exact ih (k + 1) _ _ _ _ _ _ (inv.next ok.mnd ok.mvl) (fun _ => by omega) (by omega)
theorem L_sets : G__law_sets [.d (ePl b)] [] st = .ok (.d (.lst ((allSets b).map eS))) st := by
  obtain ⟨y3, y4, y5, y6, y7, h⟩ := lsets_while ok hw 1000 0 [[]] [[]] none none none none (SInv.start ok.mnd ok.mvl) (fun _ => by omega) (by omega)
  have e1 : ∀ st, listD false (eFe b.fees) st = .ok (.d (.lst (b.moves.map eM))) st := fun st => by
    show Rs.ok (Val.d (.lst ((b.fees.map fun p => (eM p.1, D.int p.2)).map (·.1)))) st = _
    unfold Bd.moves
    rw [List.map_map, List.map_map]
    rfl
  have e2 : ([[]] : List (List Mv)).map eS = [D.tup []] := rfl
  rw [e2] at h
  simp only [G__law_sets, dS__law_sets, evs, Nat.reduceSub, List.reduceReplicate, ix_pl2, e1, h, trunc_self hw]
  rfl
end
end Pg
/-! FmB -/
/-! FmB: all sets are sets of the board. -/
namespace Pg
open PySem Fb
/-- in the order of mv -/
def Ord (mv s : List Mv) : Prop := s = [] ∨ ∃ m, s.getLast? = some m ∧ m ∈ mv ∧ s.Sublist (mv.take (mv.idxOf m + 1))
theorem Ord.sub {mv s : List Mv} (h : Ord mv s) : s.Sublist mv := by
  rcases h with rfl | ⟨m, _, _, h⟩
  · exact List.nil_sublist _
  · exact h.trans (List.take_sublist ..)
theorem nxt_eq (mv s : List Mv) : ∃ k, nxt mv s = (mv.drop k).map (fun m => s ++ [m]) ∧ ∀ m, s.getLast? = some m → k = mv.idxOf m + 1 := by
  unfold nxt
  cases h : s.getLast? with
  | none => exact ⟨0, rfl, fun m z => by cases z⟩
  | some m => exact ⟨mv.idxOf m + 1, rfl, fun m' z => by cases z; rfl⟩
theorem ord_nxt {mv s : List Mv} (nd : mv.Nodup) (h : Ord mv s) : ∀ u ∈ nxt mv s, Ord mv u := by
  intro u hu
  obtain ⟨k, ek, hk⟩ := nxt_eq mv s
  rw [ek] at hu
  obtain ⟨m', hm, rfl⟩ := List.mem_map.mp hu
  obtain ⟨i, hi, e⟩ := List.getElem_of_mem hm
  rw [List.getElem_drop] at e
  have hlt : k + i < mv.length := by
    rw [List.length_drop] at hi
    omega
  have hidx : mv.idxOf m' = k + i := by
    rw [← e]
    exact List.Nodup.idxOf_getElem nd _ hlt
  have hm' : m' ∈ mv := by rw [← e]; exact List.getElem_mem _
  refine .inr ⟨m', by simp, hm', ?_⟩
  have e3 : mv.take (mv.idxOf m' + 1) = mv.take (mv.idxOf m') ++ [m'] := by
    have hl := List.idxOf_lt_length_of_mem hm'
    rw [List.take_succ_eq_append_getElem hl, List.getElem_idxOf hl]
  rw [e3]
  refine List.Sublist.append ?_ (List.Sublist.refl _)
  rcases h with rfl | ⟨m, h1, h2, h3⟩
  · exact List.nil_sublist _
  · have := hk m h1
    exact h3.trans (List.take_sublist_take_left (by omega))
theorem ord_sets {mv : List Mv} (nd : mv.Nodup) : ∀ (n : Nat) (f l : List (List Mv)), (∀ s ∈ f, Ord mv s) → (∀ s ∈ l, Ord mv s) → ∀ s ∈ setsL mv n f l, Ord mv s
  | 0, f, l, hf, _ => hf
  | n + 1, f, l, hf, hl => by
    unfold setsL
    split
    · exact hf
    · have h2 : ∀ s ∈ l.flatMap (nxt mv), Ord mv s := fun s hs => by
        obtain ⟨u, h1, h2⟩ := List.mem_flatMap.mp hs
        exact ord_nxt nd (hl u h1) s h2
      exact ord_sets nd n _ _ (fun s hs => (List.mem_append.mp hs).elim (hf s) (h2 s)) h2
theorem filter_of_sub {α : Type} [DecidableEq α] {l s : List α} (nd : l.Nodup) (h : s.Sublist l) : l.filter (fun a => decide (a ∈ s)) = s := by
  induction h with
  | slnil => rfl
  | cons a h ih =>
    rw [List.nodup_cons] at nd
    rw [List.filter_cons_of_neg (by simpa using fun z => nd.1 (h.subset z))]
    exact ih nd.2
  | cons_cons a h ih =>
    rename_i s l
    rw [List.nodup_cons] at nd
    rw [List.filter_cons_of_pos (by simp)]
    congr 1
    have e := ih nd.2
    refine Eq.trans (List.filter_congr fun x hx => ?_) e
    have hxa : x ≠ a := fun e => nd.1 (by rw [← e]; exact hx)
    exact decide_eq_decide.mpr (by simp [hxa])
theorem allSets_st {b : Bd} (ok : OkB b) {s : List Mv} (h : s ∈ allSets b) : isSt b s = true := by
  have ho : Ord b.moves s := ord_sets ok.mnd 1000 [[]] [[]] (fun s hs => .inl (List.mem_singleton.mp hs)) (fun s hs => .inl (List.mem_singleton.mp hs)) s h
  unfold isSt
  rw [Bool.and_eq_true, List.all_eq_true]
  refine ⟨fun m hm => isMv_iff.mpr (ok.mv m (ho.sub.subset hm)), decide_eq_true ((filter_of_sub ok.mnd ho.sub).symm.trans (List.filter_congr fun x _ => decide_eq_decide.mpr Iff.rfl))⟩
end Pg
/-! FmC -/
/-! FmC: the trap that is found holds. -/
namespace Pg
open PySem Fb
/-- an entry of the trap is right; what it leads to stands in the trap or waits in w -/
def entOk (b : Bd) (s : List Mv) (won : List Str) (f : Tr) (w : List Str) (p : Str × Option Str) : Prop :=
  (b.fl p.1).goal = false ∧ match p.2 with
    | none => (b.fl p.1).side = 1 ∧ ∀ o ∈ ways b p.1 s, o ∈ tkeys f ∨ o ∈ w
    | some o => (b.fl p.1).side = 2 ∧ o ∈ ways b p.1 s ∧ (o ∈ tkeys f ∨ o ∈ w)
structure HInv (b : Bd) (s : List Mv) (f : Tr) (w : List Str) : Prop where
  t : TInv b s f w
  e : ∀ p ∈ f, entOk b s (keys (distancesOf b s)) f w p
  st : b.start ∈ tkeys f ∨ b.start ∈ w
theorem entOk_mono {b : Bd} {s : List Mv} {won : List Str} {f g : Tr} {w v : List Str} {p : Str × Option Str} (h : entOk b s won f w p) (i : ∀ x, x ∈ tkeys f ∨ x ∈ w → x ∈ tkeys g ∨ x ∈ v) : entOk b s won g v p := by
  obtain ⟨n, o⟩ := p
  cases o with
  | none => exact ⟨h.1, h.2.1, fun o ho => i o (h.2.2 o ho)⟩
  | some o => exact ⟨h.1, h.2.1, h.2.2.1, i o h.2.2.2⟩
section
variable {b : Bd} (ok : OkB b) {s : List Mv}
include ok
/-- a field of the first player without a distance: no way has one -/
theorem away_all {n : Str} (hn : n ∈ b.names) (h : n ∉ keys (distancesOf b s)) (h1 : (b.fl n).side = 1) : ∀ o ∈ ways b n s, o ∈ awayW b s (keys (distancesOf b s)) n := by
  intro o ho
  have h2 := (dist_none ok hn h).2
  unfold leadsOn at h2
  rw [if_pos h1] at h2
  refine List.mem_filter.mpr ⟨ho, ?_⟩
  have := List.any_eq_false.mp h2 o ho
  simpa using this
theorem HInv.go : ∀ (m : Nat) (f : Tr) (w : List Str), HInv b s f w → 9 * (8 - f.length) + w.length < m →
    (∀ p ∈ trapL b s (keys (distancesOf b s)) m f w, entOk b s (keys (distancesOf b s)) (trapL b s (keys (distancesOf b s)) m f w) [] p) ∧ b.start ∈ tkeys (trapL b s (keys (distancesOf b s)) m f w) := by
  intro m
  induction m with
  | zero => intro f w _ h; omega
  | succ m ih =>
    intro f w inv hm
    have hfl : f.length ≤ 8 := by
      have := nodup_len inv.t.nd inv.t.sub
      rw [names_len] at this
      unfold tkeys at this
      rw [List.length_map] at this
      have := ok.len
      omega
    unfold trapL
    cases z : w.getLast? with
    | none =>
      have hw0 : w = [] := List.getLast?_eq_none_iff.mp z
      subst hw0
      exact ⟨inv.e, inv.st.resolve_right (by simp)⟩
    | some n =>
      obtain ⟨w0, rfl⟩ : ∃ w0, w = w0 ++ [n] := by
        refine ⟨w.dropLast, ?_⟩
        have hne : w ≠ [] := fun e => by rw [e] at z; cases z
        have h1 := List.dropLast_concat_getLast hne
        rw [List.getLast?_eq_some_getLast hne] at z
        rw [← Option.some.inj z]
        exact h1.symm
      rw [List.dropLast_concat]
      rw [List.length_append] at hm
      have hlen1 : ([n] : List Str).length = 1 := rfl
      obtain ⟨hn1, hn2⟩ := inv.t.w n (by simp)
      have hw0 : ∀ x ∈ w0, x ∈ b.names ∧ x ∉ keys (distancesOf b s) := fun x hx => inv.t.w x (by simp [hx])
      dsimp only
      by_cases hf : n ∈ tkeys f
      · rw [if_pos hf]
        have mv : ∀ x, x ∈ tkeys f ∨ x ∈ w0 ++ [n] → x ∈ tkeys f ∨ x ∈ w0 := fun x hx => by
          rcases hx with h | h
          · exact .inl h
          · rcases List.mem_append.mp h with h | h
            · exact .inr h
            · rw [List.mem_singleton] at h; rw [h]; exact .inl hf
        exact ih f w0 ⟨⟨inv.t.nd, inv.t.sub, hw0⟩, fun p hp => entOk_mono (inv.e p hp) mv, mv _ inv.st⟩ (by omega)
      · rw [if_neg hf]
        have hwon := (dist_none ok hn1 hn2).1
        have hgoal : (b.fl n).goal = false := by
          unfold wonAt at hwon
          rw [Bool.or_eq_false_iff] at hwon
          exact hwon.1
        have hfl2 : f.length < 8 := by
          have h1 : (tkeys (f ++ [(n, none)])).Nodup := by
            rw [tkeys_app, List.nodup_append]
            exact ⟨inv.t.nd, by simp, fun a ha c hc z => hf (by rw [List.mem_singleton] at hc; rw [← hc, ← z]; exact ha)⟩
          have := nodup_len h1 (m := b.names) fun a ha => by
            rw [tkeys_app] at ha
            rcases List.mem_append.mp ha with h | h
            · exact inv.t.sub a h
            · rw [List.mem_singleton] at h; rw [h]; exact hn1
          rw [names_len, tkeys_app, List.length_append] at this
          unfold tkeys at this
          rw [List.length_map] at this
          have := ok.len
          have : ([n] : List Str).length = 1 := rfl
          omega
        have key : ∀ (o : Option Str) (v : List Str), (∀ x ∈ v, x ∈ b.names ∧ x ∉ keys (distancesOf b s)) → v.length ≤ 8 → entOk b s (keys (distancesOf b s)) (f ++ [(n, o)]) (w0 ++ v) (n, o) →
            HInv b s (f ++ [(n, o)]) (w0 ++ v) := fun o v hv hvl he => by
          have mv : ∀ x, x ∈ tkeys f ∨ x ∈ w0 ++ [n] → x ∈ tkeys (f ++ [(n, o)]) ∨ x ∈ w0 ++ v := fun x hx => by
            rw [tkeys_app, List.mem_append, List.mem_append]
            rcases hx with h | h
            · exact .inl (.inl h)
            · rcases List.mem_append.mp h with h | h
              · exact .inr (.inl h)
              · exact .inl (.inr h)
          refine ⟨⟨?_, fun x hx => ?_, fun x hx => ?_⟩, fun p hp => ?_, mv _ inv.st⟩
          · rw [tkeys_app, List.nodup_append]
            exact ⟨inv.t.nd, by simp, fun a ha c hc z => hf (by rw [List.mem_singleton] at hc; rw [← hc, ← z]; exact ha)⟩
          · rw [tkeys_app] at hx
            rcases List.mem_append.mp hx with h | h
            · exact inv.t.sub x h
            · rw [List.mem_singleton] at h; rw [h]; exact hn1
          · exact (List.mem_append.mp hx).elim (hw0 x) (hv x)
          · rcases List.mem_append.mp hp with h | h
            · exact entOk_mono (inv.e p h) mv
            · rw [List.mem_singleton] at h; rw [h]; exact he
        have hal := away_len ok hn1 (s := s) (keys (distancesOf b s))
        by_cases h1 : (b.fl n).side = 1
        · rw [if_pos h1]
          exact ih _ _ (key none _ (fun x hx => away_in ok hn1 hx) hal ⟨hgoal, h1, fun o ho => .inr (List.mem_append.mpr (.inr (away_all ok hn1 hn2 h1 o ho)))⟩) (by rw [List.length_append, List.length_append]; simp only [List.length_cons, List.length_nil]; omega)
        · rw [if_neg h1]
          obtain ⟨o, r, ho⟩ := away_ne ok hn1 hn2 h1
          rw [ho]
          have hoin : o ∈ awayW b s (keys (distancesOf b s)) n := by rw [ho]; simp
          have h2 : (b.fl n).side = 2 := (ok.side n hn1).resolve_left h1
          exact ih _ _ (key (some o) _ (fun x hx => by
            have : x = o := by simpa using hx
            rw [this]
            exact away_in ok hn1 hoin) (by simp) ⟨hgoal, h2, (List.mem_filter.mp hoin).1, .inr (by simp)⟩) (by rw [List.length_append, List.length_append]; simp only [List.length_cons, List.length_nil, List.take_succ_cons, List.take_zero]; omega)
theorem trap_holds (h : b.start ∉ keys (distancesOf b s)) : holdsT b s (trapOf b s) = true := by
  obtain ⟨h1, h2⟩ := HInv.go ok (s := s) 1000 [] [b.start] ⟨⟨by simp [tkeys], by simp [tkeys], fun n hn => by rw [List.mem_singleton] at hn; rw [hn]; exact ⟨ok.start, h⟩⟩, (fun p hp => nomatch hp), .inr (by simp)⟩ (by simp)
  have h1 : ∀ p ∈ trapOf b s, entOk b s (keys (distancesOf b s)) (trapOf b s) [] p := h1
  have h2 : b.start ∈ tkeys (trapOf b s) := h2
  have hk := (trapOf_ok ok s).k
  unfold holdsT trapOk holdsAg
  rw [Bool.and_eq_true, Bool.and_eq_true, List.all_eq_true, List.all_eq_true]
  refine ⟨⟨decide_eq_true h2, fun p hp => ?_⟩, fun p hp => ?_⟩
  · have h3 := h1 p hp
    obtain ⟨n, v⟩ := p
    unfold trapOk1
    cases v with
    | none =>
      obtain ⟨h4, h5, h6⟩ := h3
      simp [h4, h5]
    | some o =>
      obtain ⟨h4, h5, h6, h7⟩ := h3
      have h8 := ways_sub h6
      have h9 : o ∈ tkeys (trapOf b s) := h7.resolve_right (by simp)
      simp only at h4 h5 h8
      simp [h4, h5, h8, h9]
  · have h3 := h1 p hp
    obtain ⟨n, v⟩ := p
    unfold holdsAg1
    cases v with
    | none =>
      obtain ⟨h4, h5, h6⟩ := h3
      dsimp only
      rw [List.all_eq_true]
      exact fun o ho => decide_eq_true ((h6 o ho).resolve_right (by simp))
    | some o =>
      obtain ⟨h4, h5, h6, h7⟩ := h3
      exact (List.mem_filter.mp h6).2
end
end Pg
/-! FmD -/
/-! FmD: within a number of moves. -/
namespace Pg
open PySem Fb
theorem leadsP_mono {b : Bd} {s : List Mv} {P Q : Str → Bool} (h : ∀ o, P o = true → Q o = true) {n : Str} (hp : leadsP b s P n = true) : leadsP b s Q n = true := by
  unfold leadsP at hp ⊢
  by_cases h1 : (b.fl n).side = 1
  · rw [if_pos h1] at hp ⊢
    obtain ⟨o, h2, h3⟩ := List.any_eq_true.mp hp
    exact List.any_eq_true.mpr ⟨o, h2, h o h3⟩
  · rw [if_neg h1] at hp ⊢
    exact List.all_eq_true.mpr fun o ho => h o (List.all_eq_true.mp hp o ho)
theorem rk_succ (b : Bd) (s : List Mv) (k : Nat) (n : Str) : (rk b s (k + 1) n).isSome = ((rk b s k n).isSome || leadsP b s (fun o => (rk b s k o).isSome) n) := by
  show (match rk b s k n with | some i => some i | none => if leadsP b s (fun o => (rk b s k o).isSome) n then some ((k : Int) + 1) else none).isSome = _
  cases rk b s k n with
  | some v => rfl
  | none => cases leadsP b s (fun o => (rk b s k o).isSome) n <;> rfl
theorem rk_zero (b : Bd) (s : List Mv) (n : Str) : (rk b s 0 n).isSome = wonAt b s n := by
  show (if wonAt b s n then some (0 : Int) else none).isSome = _
  cases wonAt b s n <;> rfl
theorem rk_up {b : Bd} {s : List Mv} : ∀ {k : Nat} {n : Str}, (rk b s k n).isSome = true → (wonAt b s n || leadsP b s (fun o => (rk b s k o).isSome) n) = true
  | 0, n, h => by rw [rk_zero] at h; rw [h]; rfl
  | k + 1, n, h => by
    have mono : ∀ o, (rk b s k o).isSome = true → (rk b s (k + 1) o).isSome = true := fun o ho => by rw [rk_succ, ho]; rfl
    rw [rk_succ, Bool.or_eq_true] at h
    rw [Bool.or_eq_true]
    rcases h with h | h
    · have := rk_up h
      rw [Bool.or_eq_true] at this
      exact this.imp id (leadsP_mono mono)
    · exact .inr (leadsP_mono mono h)
theorem rk_won_some {b : Bd} {s : List Mv} {n : Str} : ∀ {k : Nat}, wonAt b s n = true → (rk b s k n).isSome = true
  | 0, h => by rw [rk_zero]; exact h
  | k + 1, h => by rw [rk_succ, rk_won_some h]; rfl
/-- within k + 1 moves -/
theorem rk_within (b : Bd) (s : List Mv) (k : Nat) (n : Str) : (rk b s (k + 1) n).isSome = (wonAt b s n || leadsP b s (fun o => (rk b s k o).isSome) n) := by
  rw [Bool.eq_iff_iff]
  constructor
  · intro h
    rw [rk_succ, Bool.or_eq_true] at h
    rcases h with h | h
    · exact rk_up h
    · rw [h, Bool.or_true]
  · intro h
    rw [Bool.or_eq_true] at h
    rcases h with h | h
    · exact rk_won_some h
    · rw [rk_succ, h, Bool.or_true]
/-- a table entry holds at every later round -/
theorem rk_keep {b : Bd} {s : List Mv} {k : Nat} {n : Str} {v : Int} (h : rk b s k n = some v) : ∀ j, rk b s (k + j) n = some v
  | 0 => h
  | j + 1 => by
    show (match rk b s (k + j) n with | some i => some i | none => _) = _
    rw [rk_keep h j]
/-- the number itself tells the round -/
theorem rk_first {b : Bd} {s : List Mv} {n : Str} {v : Int} : ∀ {k : Nat}, rk b s k n = some v → ∀ j : Nat, (rk b s j n).isSome = decide (v ≤ (j : Int))
  | 0, h, j => by
    have hv : v = 0 := by
      have h1 : (if wonAt b s n then some (0 : Int) else none) = some v := h
      split at h1 <;> cases h1
      rfl
    have := rk_keep h j
    rw [Nat.zero_add] at this
    rw [this, hv]
    simp
  | k + 1, h, j => by
    cases q : rk b s k n with
    | some w =>
      have := rk_keep q 1
      rw [h] at this
      cases this
      exact rk_first q j
    | none =>
      have h1 : (match rk b s k n with | some i => some i | none => if leadsP b s (fun o => (rk b s k o).isSome) n then some ((k : Int) + 1) else none) = some v := h
      rw [q] at h1
      dsimp only at h1
      have hv : v = (k : Int) + 1 := by
        split at h1 <;> cases h1
        rfl
      by_cases hj : k + 1 ≤ j
      · have := rk_keep h (j - (k + 1))
        rw [show k + 1 + (j - (k + 1)) = j by omega] at this
        rw [this]
        symm
        show decide (v ≤ (j : Int)) = true
        exact decide_eq_true (by omega)
      · cases z : rk b s j n with
        | none =>
          symm
          exact decide_eq_false (by omega)
        | some w =>
          have := rk_keep z (k - j)
          rw [show j + (k - j) = k by omega, q] at this
          cases this
end Pg
/-! FrJ -/
/-! FrJ: family B: within a number of moves. -/
namespace Pg
open PySem Fb Lb
section
variable {b : Bd} (ok : OkB b) {s : List Mv} (hs : SOk s)
include ok hs
theorem L_within : ∀ (d k : Nat), k < d → ∀ (n : Str), n ∈ b.names → ∀ (st : Sto), Wf st → G__law_within d [.d (ePl b), .d (eN n), .d (eS s), .d (.int (k : Nat))] [] st = .ok (.d (.bl (rk b s k n).isSome)) st := by
  intro d
  induction d with
  | zero => intro k h; omega
  | succ d ih =>
    intro k hk n hn st hw
    have hwy := L_ways ok hw hn hs
    have wl := ways_len ok hn s
    have q0 : ∀ st, cmpD .eq (.lst ((ways b n s).map eN)) (.lst []) st = .ok (ways b n s).isEmpty st := fun st => by rw [ev_eq _ _ _ (okQ_names0 (ways_nm ok hn s)), eqD_lst0]
    have e0 : G__law_within (d + 1) = posG (fnD 4 10 (dS__law_within (G__law_within d))) [] := rfl
    rw [e0]
    simp only [dS__law_within, evs, Nat.reduceSub, List.reduceReplicate, ix_pl0, ix_eRs hn, unp_rw [4, 5, 6] rfl, hwy]
    have fin : wonAt b s n = false → ∀ (e : DEnv), e = [some (.d (ePl b)), some (.d (eN n)), some (.d (eS s)), some (.d (.int (k : Nat))), some (.d (.int (b.fl n).side)), some (.d (.tup ((b.fl n).aims.map eN))), some (.d (.bl (b.fl n).goal)), some (.d (.lst ((ways b n s).map eN))), none, none] →
        ((sIf (tCmp .eq (dVar 3) (dCon (.int 0))) (sRet (dCon (.bl false))) (sPass)) e st).seq (sSeq (sSet 8 (dLc (iSeq (dVar 7)) (tgN 9) (tYs) (dCallG (G__law_within d) (dCons (dVar 0) (dCons (dVar 9) (dCons (dVar 2) (dCons (dBin .sub (dVar 3) (dCon (.int 1))) (dNil)))))) [9] false)) (sRet (dIf (tCmp .eq (dVar 4) (dCon (.int 1))) (dB bAny (dCons (dVar 8) (dNil))) (dB bAll (dCons (dVar 8) (dNil)))))) = .rt (.d (.bl (rk b s k n).isSome)) st := by
      intro hwn e he
      subst he
      cases k with
      | zero =>
        rw [rk_zero, hwn]
        simp only [evs, Int.natCast_zero]
      | succ k =>
        have hne : ¬ (((k + 1 : Nat) : Int) = 0) := by omega
        have hk1 : ((k + 1 : Nat) : Int) - 1 = (k : Nat) := by omega
        have lc : dLc (iSeq (dVar 7)) (tgN 9) (tYs) (dCallG (G__law_within d) (dCons (dVar 0) (dCons (dVar 9) (dCons (dVar 2) (dCons (dBin .sub (dVar 3) (dCon (.int 1))) (dNil)))))) [9] false [some (.d (ePl b)), some (.d (eN n)), some (.d (eS s)), some (.d (.int ((k + 1 : Nat) : Int))), some (.d (.int (b.fl n).side)), some (.d (.tup ((b.fl n).aims.map eN))), some (.d (.bl (b.fl n).goal)), some (.d (.lst ((ways b n s).map eN))), none, none] st = .ok (.d (.lst ((ways b n s).map fun o => .bl (rk b s k o).isSome))) st := by
          rw [ev_dLc (enc := eN) (E := fun o => [some (.d (ePl b)), some (.d (eN n)), some (.d (eS s)), some (.d (.int ((k + 1 : Nat) : Int))), some (.d (.int (b.fl n).side)), some (.d (.tup ((b.fl n).aims.map eN))), some (.d (.bl (b.fl n).goal)), some (.d (.lst ((ways b n s).map eN))), none, some (.d (eN o))]) (p := fun _ => true) (ways b n s) (fun o => .bl (rk b s k o).isSome) (by simp only [evs]) hw (by omega) (fun o ho => by simp only [evs]) (fun o ho s2 w => by simp only [evs]) (fun o ho _ s2 w => by
            have h := ih k (by omega) o (ok.closed n hn o (ways_sub ho)) s2 w
            simp only [evs, hk1, h]), filter_tt]
        rw [rk_within, hwn, Bool.false_or]
        unfold leadsP
        simp only [evs, hne, lc]
        by_cases h1 : (b.fl n).side = 1
        · simp only [evs, h1]
        · simp only [evs, h1]
    unfold wonAt at fin
    have hv : wonAt b s n = true → (rk b s k n).isSome = true := rk_won_some
    unfold wonAt at hv
    cases hg : (b.fl n).goal with
    | true =>
      rw [hg] at hv
      rw [hv rfl]
      simp only [evs, trunc_self hw]
    | false =>
      rw [hg] at fin hv
      by_cases h2 : (b.fl n).side = 2
      · rw [h2] at fin hv
        cases hz : (ways b n s).isEmpty with
        | true =>
          rw [hv (by rw [hz]; rfl)]
          simp only [evs, h2, q0, hz, trunc_self hw]
        | false =>
          simp only [evs, h2, q0, hz]
          have := fin (by rw [hz]; rfl) _ rfl
          simp only [evs] at this
          rw [this]
          simp only [evs, trunc_self hw]
      · simp only [evs, h2]
        have := fin (by simp [h2]) _ rfl
        simp only [evs] at this
        rw [this]
        simp only [evs, trunc_self hw]
end
end Pg
/-! FpM -/
/-! FpM: trap. -/
namespace Pg
open PySem Fb
section
variable {b : Bd} (ok : OkB b) {s : List Mv} (hs : isSt b s = true) (hn : s.length ≤ 1000) {st : Sto} (hw : Wf st)
include ok hs hn hw
theorem G_trap_ok : G_trap [.d (eB b), .d (eS s)] [] st = .ok (.d (if b.start ∈ keys (distancesOf b s) then .non else eTr (trapOf b s))) st := by
  have hs' := isSt_ok ok hs
  have h1 := G_cs_ok ok hw hs hn
  have h2 := G_wins_ok ok hs' hw
  simp only [G_trap, dS_trap, evs, Nat.reduceSub, List.reduceReplicate, h1, h2]
  by_cases h : b.start ∈ keys (distancesOf b s)
  · simp only [evs, h, trunc_self hw]
  · have h3 := G_trap_of_ok ok hs' hw h
    simp only [evs, h, h3, trunc_self hw]
end
end Pg
/-! FrK -/
/-! FrK: family B: ranks and traps that are drawn. -/
namespace Pg
open PySem Fb Lb
section
variable {k len : Nat} {ι : Type} {B : ι → Sto} (dw : Dw G__law_next k B len) {b : Bd} (ok : OkB b) {s : List Mv} (hs : SOk s)
include dw ok hs
theorem L_ranks (i : ι) : ∃ r i', (∀ p ∈ r, p.1 ∈ b.names ∧ 0 ≤ p.2) ∧ r.length ≤ 100 ∧ (keys r).Nodup ∧ G__law_ranks [.cell k, .d (ePl b), .d (eS s)] [] (B i) = .ok (.d (eDi r)) (B i') := by
  have hfar := L_far ok hs (dw.wf i)
  have ed : distances b s = tabG b (rk b s b.lines.length) := by
    unfold distances tabG
    exact List.map_congr_left fun n hn => by rw [dist_rk ok (Nat.le_refl _) hn]
  rw [ed] at hfar
  have el : ∀ st, listD false (eDo (tabG b (rk b s b.lines.length))) st = .ok (.d (.lst (b.names.map eN))) st := fun st => by
    show Rs.ok (Val.d (.lst (((tabG b (rk b s b.lines.length)).map fun p => (eN p.1, eO p.2)).map (·.1)))) st = _
    rw [List.map_map]
    have e : ((fun x : D × D => x.1) ∘ fun p : Str × Option Int => (eN p.1, eO p.2)) = eN ∘ (·.1) := rfl
    rw [e, ← List.map_map, tab_keys]
  have hlen : b.names.length ≤ 8 := by rw [names_len]; exact ok.len
  have loop := nx_for0 (g := tgN 5) (p := L__law_ranks_0) (enc := eN) (I := fun pr e s' => ∃ (r : List (Str × Int)) (i : ι) (y5 : Option Val), (∀ p ∈ r, p.1 ∈ b.names ∧ 0 ≤ p.2) ∧ r.length ≤ pr.length ∧ (keys r).Nodup ∧ e = [some (.cell k), some (.d (ePl b)), some (.d (eS s)), some (.d (eDo (tabG b (rk b s b.lines.length)))), some (.cell len), y5] ∧ s' = B i ++ [some (.dic false (r.map fun p => (eN p.1, .int p.2)))]) b.names.reverse
    (e := [some (.cell k), some (.d (ePl b)), some (.d (eS s)), some (.d (eDo (tabG b (rk b s b.lines.length)))), some (.cell len), none]) (s := B i ++ [some (.dic false [])]) ⟨[], i, none, by simp, by simp, List.nodup_nil, rfl, rfl⟩ (by
      rintro pr n post e s' hp ⟨r, i1, y5, hr, hrl, hrn, rfl, rfl⟩
      have hn : n ∈ b.names := by rw [← List.mem_reverse, hp]; simp
      have hpl : pr.length ≤ 8 := by
        have := congrArg List.length hp
        rw [List.length_reverse, List.length_append] at this
        omega
      have dw1 := dw.one (some (.dic false (r.map fun p => (eN p.1, .int p.2))))
      simp only [forStep, L__law_ranks_0, evs, ix_tab (rk b s b.lines.length) hn, isNon_eO]
      cases q : rk b s b.lines.length n with
      | none =>
        simp only [evs, Option.isNone_none]
        exact Nx.eq rfl ⟨r, i1, some (.d (eN n)), hr, by rw [List.length_append]; omega, hrn, rfl, rfl⟩
      | some v =>
        obtain ⟨r9, i2, _, _, h9⟩ := dw1.here i1 (m := 9) (by decide) (by decide)
        simp only [evs, Option.isNone_some, h9]
        by_cases hz : 0 < r9
        · obtain ⟨r2, i3, h21, h22, h2⟩ := dw1.here i2 (m := 2) (by decide) (by decide)
          have e9 : eO (some v) = .int v := rfl
          have em : ∀ st, binD .mul (.int 2) (.int v) st = .ok (.int (2 * v)) st := fun st => ev_mulI st _ _ (.inl (by decide))
          have hput : putI (.cell len) (.d (eN n)) (.d (.int (2 * v + r2))) (B i3 ++ [some (.dic false (r.map fun p => (eN p.1, .int p.2)))]) = .ok (.d .non) (B i3 ++ [some (.dic false ((dPut r n (2 * v + r2)).map fun p => (eN p.1, .int p.2)))]) := by
            rw [ev_putI (t := false) _ _ (dw.get ..) (isKey_eN n) (by rw [List.length_map]; omega), dw.set, putNm (fun j : Int => D.int j) r n (2 * v + r2)]
          simp only [evs, hz, ix_tab (rk b s b.lines.length) hn, q, e9, em, h2, hput]
          have hv := rk_le q
          exact Nx.eq rfl ⟨_, i3, some (.d (eN n)), fun p hp => (dPut_mem hp).elim (hr p) fun e => by rw [e]; exact ⟨hn, by show 0 ≤ 2 * v + r2; omega⟩, by have := dPut_len r n (2 * v + r2); rw [List.length_append]; simp; omega, dPut_nd hrn n _, rfl, rfl⟩
        · simp only [evs, hz]
          exact Nx.eq rfl ⟨r, i2, some (.d (eN n)), hr, by rw [List.length_append]; omega, hrn, rfl, rfl⟩)
  obtain ⟨e, s', hl, r, i1, y5, hr, hrl, hrn, rfl, rfl⟩ := loop
  rw [List.length_reverse] at hrl
  have dw1 := dw.one (some (.dic false (r.map fun p => (eN p.1, .int p.2))))
  obtain ⟨r3, i2, _, _, h3⟩ := dw1.here i1 (m := 3) (by decide) (by decide)
  rw [List.map_reverse] at hl
  have hz : ∀ (i : ι) (r : List (Str × Int)) e, frzV e 4 len (B i ++ [some (.dic false (r.map fun p => (eN p.1, .int p.2)))]) = .nx (e.set 4 (some (.d (eDi r)))) (B i ++ [none]) := fun i r e => by
    rw [frzV_dic _ _ _ _ _ _ (dw.get ..), dw.set]
    rfl
  simp only [G__law_ranks, dS__law_ranks, evs, Nat.reduceSub, List.reduceReplicate, hfar, dw.hl, el, hl, h3]
  by_cases h0 : r3 = 0
  · obtain ⟨r6, i3, h61, _, h6⟩ := dw1.here i2 (m := 6) (by decide) (by decide)
    obtain ⟨x, hx, i4, hp⟩ := L_pick dw1 i3 (l := b.names.map eN) (by simpa using List.ne_nil_of_mem ok.start) (by rw [List.length_map]; omega)
    obtain ⟨n, hn, rfl⟩ := List.mem_map.mp hx
    have hput : putI (.cell len) (.d (eN n)) (.d (.int r6)) (B i4 ++ [some (.dic false (r.map fun p => (eN p.1, .int p.2)))]) = .ok (.d .non) (B i4 ++ [some (.dic false ((dPut r n r6).map fun p => (eN p.1, .int p.2)))]) := by
      rw [ev_putI (t := false) _ _ (dw.get ..) (isKey_eN n) (by rw [List.length_map]; omega), dw.set, putNm (fun j : Int => D.int j) r n r6]
    refine ⟨dPut r n r6, i4, fun p hp => (dPut_mem hp).elim (hr p) fun e => by rw [e]; exact ⟨hn, h61⟩, by have := dPut_len r n r6; omega, dPut_nd hrn n _, ?_⟩
    simp only [evs, h0, h6, el, hp, hput, hz, dw.trunc]
  · refine ⟨r, i2, hr, by omega, hrn, ?_⟩
    simp only [evs, h0, hz, dw.trunc]
/-- a trap that is being drawn -/
structure PInv (b : Bd) (f : Tr) (w : List Str) : Prop where
  nd : (tkeys f).Nodup
  k : ∀ p ∈ f, p.1 ∈ b.names ∧ ∀ o, p.2 = some o → o ∈ b.names
  w : ∀ n ∈ w, n ∈ b.names
end
end Pg
/-! FrL -/
/-! FrL: family B: traps that are drawn. -/
namespace Pg
open PySem Fb Lb
section
variable {k len : Nat} {ι : Type} {B : ι → Sto} (dw : Dw G__law_next k B len)
include dw
theorem Dw.getL (i : ι) (c x : Option Cel) (j : Sto) : (B i ++ c :: (j ++ [x]))[len + (1 + j.length)]? = some x := by
  have := mid_get (B i ++ c :: j) x []
  rw [List.length_append, dw.hl, List.length_cons, List.append_assoc] at this
  rw [Nat.add_comm 1]
  exact this
theorem Dw.setL (i : ι) (c x y : Option Cel) (j : Sto) : (B i ++ c :: (j ++ [x])).set (len + (1 + j.length)) y = B i ++ c :: (j ++ [y]) := by
  have := mid_set (B i ++ c :: j) x y []
  rw [List.length_append, dw.hl, List.length_cons, List.append_assoc, List.append_assoc] at this
  rw [Nat.add_comm 1]
  exact this
theorem Dw.lenL (i : ι) (c x : Option Cel) (j : Sto) : (B i ++ c :: (j ++ [x])).length = len + (1 + (j ++ [x]).length) := by
  rw [List.length_append, dw.hl, List.length_cons, Nat.add_comm 1]
variable {b : Bd} (ok : OkB b) {s : List Mv} (hs : SOk s)
include ok hs
theorem trap_T (i : ι) (f : Tr) (j : Sto) {w : List Str} (hw : ∀ n ∈ w, n ∈ b.names) (x0 x1 x2 x3 x4 x6 x7 x8 : Option Val) :
    T__law_trap_0 [x0, x1, x2, x3, x4, some (.cell (len + (1 + j.length))), x6, x7, x8] (B i ++ some (.dic false (eTl f)) :: (j ++ [some (.lst (w.map eN))])) = .ok (!w.isEmpty) (B i ++ some (.dic false (eTl f)) :: (j ++ [some (.lst (w.map eN))])) := by
  have hsn : snap (.cell (len + (1 + j.length))) (B i ++ some (.dic false (eTl f)) :: (j ++ [some (.lst (w.map eN))])) = .ok (.lst (w.map eN)) (B i ++ some (.dic false (eTl f)) :: (j ++ [some (.lst (w.map eN))])) := by
    unfold snap
    simp only [dw.getL]
  have q0 : ∀ st, cmpD .ne (.lst (w.map eN)) (.lst []) st = .ok (!w.isEmpty) st := fun st => by rw [ev_ne _ _ _ (okQ_names0 fun o ho => ok.nm o (hw o ho)), eqD_lst0]
  simp only [T__law_trap_0, evs, hsn, q0]
theorem PInv.size {f : Tr} {w : List Str} (inv : PInv b f w) : f.length ≤ 8 := by
  have := nodup_len inv.nd (m := b.names) fun a ha => by
    obtain ⟨p, hp, e⟩ := List.mem_map.mp ha
    rw [← e]
    exact (inv.k p hp).1
  rw [names_len] at this
  unfold tkeys at this
  rw [List.length_map] at this
  have := ok.len
  omega
theorem trap_put (i : ι) {f : Tr} (hf : f.length ≤ 1000) (n : Str) (o : Option Str) (r : Sto) :
    putI (.cell len) (.d (eN n)) (.d (eOs o)) (B i ++ some (.dic false (eTl f)) :: r) = .ok (.d .non) (B i ++ some (.dic false (eTl (dPut f n o))) :: r) := by
  rw [ev_putI (t := false) _ _ (dw.get ..) (isKey_eN n) (by unfold eTl; rw [List.length_map]; omega), dw.set]
  unfold eTl
  rw [putNm eOs f n o]
theorem trap_end (i : ι) {f : Tr} (j : Sto) {w0 near : List Str} (h : w0.length + near.length ≤ 10000) (x0 x1 x2 x3 x4 x6 x8 : Option Val) :
    sSet 5 (dAddL (dVar 5) (dVar 7)) [x0, x1, x2, x3, x4, some (.cell (len + (1 + j.length))), x6, some (.d (.lst (near.map eN))), x8] (B i ++ some (.dic false (eTl f)) :: (j ++ [some (.lst (w0.map eN))])) =
      .nx [x0, x1, x2, x3, x4, some (.cell (len + (1 + (j ++ [some (Cel.lst (w0.map eN))]).length))), x6, some (.d (.lst (near.map eN))), x8] (B i ++ some (.dic false (eTl f)) :: ((j ++ [some (.lst (w0.map eN))]) ++ [some (.lst ((w0 ++ near).map eN))])) := by
  have hsn : snap (.cell (len + (1 + j.length))) (B i ++ some (.dic false (eTl f)) :: (j ++ [some (.lst (w0.map eN))])) = .ok (.lst (w0.map eN)) (B i ++ some (.dic false (eTl f)) :: (j ++ [some (.lst (w0.map eN))])) := by
    unfold snap
    simp only [dw.getL]
  have hadd : addL2 (.lst (w0.map eN)) (.lst (near.map eN)) (B i ++ some (.dic false (eTl f)) :: (j ++ [some (.lst (w0.map eN))])) = .ok (.cell (len + (1 + (j ++ [some (Cel.lst (w0.map eN))]).length))) (B i ++ some (.dic false (eTl f)) :: ((j ++ [some (.lst (w0.map eN))]) ++ [some (.lst ((w0 ++ near).map eN))])) := by
    rw [ev_addL2 _ _ _ (by rw [List.length_map, List.length_map]; omega), dw.lenL, ← List.map_append]
    simp only [List.append_assoc, List.cons_append]
  simp only [evs, hsn, hadd]
theorem trap_turn (i : ι) {f : Tr} {j : Sto} (hj : j.all plainC = true) {w0 : List Str} {n : Str} (inv : PInv b f (w0 ++ [n])) (hw0 : w0.length ≤ 5000) (x6 x7 : Option Val) :
    Nx (L__law_trap_1 [some (.cell k), some (.d (ePl b)), some (.d (eS s)), some (.d (eDo (tabG b (rk b s b.lines.length)))), some (.cell len), some (.cell (len + (1 + j.length))), x6, x7, none] (B i ++ some (.dic false (eTl f)) :: (j ++ [some (.lst ((w0 ++ [n]).map eN))])))
      fun e s' => ∃ f' w' i' j' y6 y7, PInv b f' w' ∧ 9 * (8 - f'.length) + w'.length < 9 * (8 - f.length) + (w0.length + 1) ∧ j'.all plainC = true ∧
        e = [some (.cell k), some (.d (ePl b)), some (.d (eS s)), some (.d (eDo (tabG b (rk b s b.lines.length)))), some (.cell len), some (.cell (len + (1 + j'.length))), y6, y7, none] ∧ s' = B i' ++ some (.dic false (eTl f')) :: (j' ++ [some (.lst (w'.map eN))]) := by
  have hn : n ∈ b.names := inv.w n (by simp)
  have e1 : mPop (.cell (len + (1 + j.length))) [] (B i ++ some (.dic false (eTl f)) :: (j ++ [some (.lst ((w0 ++ [n]).map eN))])) = .ok (.d (eN n)) (B i ++ some (.dic false (eTl f)) :: (j ++ [some (.lst (w0.map eN))])) := by
    rw [ev_pop (l := w0.map eN) (x := eN n) (by rw [dw.getL, List.map_append]; rfl), dw.setL]
  have e2 : isTg isL (.cell (len + (1 + j.length))) (B i ++ some (.dic false (eTl f)) :: (j ++ [some (.lst ((w0 ++ [n]).map eN))])) = .ok () (B i ++ some (.dic false (eTl f)) :: (j ++ [some (.lst ((w0 ++ [n]).map eN))])) := ev_isL (dw.getL ..)
  have e3 : ∀ (i : ι) (f : Tr) (r : Sto), snap (.cell len) (B i ++ some (.dic false (eTl f)) :: r) = .ok (eTr f) (B i ++ some (.dic false (eTl f)) :: r) := fun i f r => dw.snapD i false _ r
  simp only [L__law_trap_1, evs, e1, e2, e3, in_eTr]
  by_cases hf : n ∈ tkeys f
  · simp only [evs, hf]
    exact Nx.eq rfl ⟨f, w0, i, j, _, _, ⟨inv.nd, inv.k, fun x hx => inv.w x (by simp [hx])⟩, by omega, hj, rfl, rfl⟩
  · have hb : Wf (B i ++ some (.dic false (eTl f)) :: (j ++ [some (.lst (w0.map eN))])) := Wf.plain (dw.wf i) (by rw [List.all_cons, List.all_append, hj]; rfl)
    have hwy := L_ways ok hb hn hs
    have wl := ways_len ok hn s
    obtain ⟨near, enear⟩ : ∃ near, near = (ways b n s).filter fun o => (rk b s b.lines.length o).isNone := ⟨_, rfl⟩
    have hnear : ∀ o ∈ near, o ∈ b.names := fun o ho => by
      rw [enear] at ho
      exact ok.closed n hn o (ways_sub (List.mem_filter.mp ho).1)
    have hnl : near.length ≤ 8 := by rw [enear]; exact Nat.le_trans (List.length_filter_le _ _) wl
    have e4 : dLc (iSeq (dCallG G__law_ways (dCons (dVar 1) (dCons (dVar 6) (dCons (dVar 2) (dNil)))))) (tgN 8) (tCmp .isN (dIx (dVar 3) (dVar 8)) (dCon .non)) (dVar 8) [8] false [some (.cell k), some (.d (ePl b)), some (.d (eS s)), some (.d (eDo (tabG b (rk b s b.lines.length)))), some (.cell len), some (.cell (len + (1 + j.length))), some (.d (eN n)), x7, none] (B i ++ some (.dic false (eTl f)) :: (j ++ [some (.lst (w0.map eN))])) =
        .ok (.d (.lst (near.map eN))) (B i ++ some (.dic false (eTl f)) :: (j ++ [some (.lst (w0.map eN))])) := by
      rw [enear]
      exact ev_dLc (enc := eN) (E := fun o => [some (.cell k), some (.d (ePl b)), some (.d (eS s)), some (.d (eDo (tabG b (rk b s b.lines.length)))), some (.cell len), some (.cell (len + (1 + j.length))), some (.d (eN n)), x7, some (.d (eN o))]) (p := fun o => (rk b s b.lines.length o).isNone) (ways b n s) eN (by simp only [evs, hwy]) hb (by omega) (fun o ho => by simp only [evs]) (fun o ho s2 w => by simp only [evs, ix_tab (rk b s b.lines.length) (ok.closed n hn o (ways_sub ho)), isNon_eO]) (fun o ho _ s2 w => by simp only [evs])
    have hfl := inv.size dw ok hs
    have hsub : ∀ o, (∀ x, o = some x → x ∈ b.names) → (f ++ [(n, o)]).length ≤ 8 ∧ ∀ w', (∀ x ∈ w', x ∈ b.names) → PInv b (f ++ [(n, o)]) w' := fun o ho => by
      have nd : (tkeys (f ++ [(n, o)])).Nodup := by
        rw [tkeys_app, List.nodup_append]
        exact ⟨inv.nd, by simp, fun a ha c hc z => hf (by rw [List.mem_singleton] at hc; rw [← hc, ← z]; exact ha)⟩
      have hk : ∀ p ∈ f ++ [(n, o)], p.1 ∈ b.names ∧ ∀ x, p.2 = some x → x ∈ b.names := fun p hp => by
        rcases List.mem_append.mp hp with h | h
        · exact inv.k p h
        · rw [List.mem_singleton] at h
          subst h
          exact ⟨hn, ho⟩
      exact ⟨PInv.size dw ok hs ⟨nd, hk, fun x (hx : x ∈ ([] : List Str)) => nomatch hx⟩, fun w' hw' => ⟨nd, hk, hw'⟩⟩
    have hw0n : ∀ x ∈ w0, x ∈ b.names := fun x hx => inv.w x (by simp [hx])
    have e5 := trap_put dw ok hs i (f := f) (by omega) n none (j ++ [some (.lst (w0.map eN))])
    rw [dPut_new hf] at e5
    have hnm : ∀ x ∈ near, Nm x := fun x hx => ok.nm x (hnear x hx)
    have q0 : ∀ st, cmpD .ne (.lst (near.map eN)) (.lst []) st = .ok (!near.isEmpty) st := fun st => by rw [ev_ne _ _ _ (okQ_names0 hnm), eqD_lst0]
    have e5' : putI (.cell len) (.d (eN n)) (.d .non) (B i ++ some (.dic false (eTl f)) :: (j ++ [some (.lst (w0.map eN))])) = .ok (.d .non) (B i ++ some (.dic false (eTl (f ++ [(n, none)]))) :: (j ++ [some (.lst (w0.map eN))])) := e5
    have fin : ∀ (o : Option Str) (near' : List Str) (i : ι), (∀ x, o = some x → x ∈ b.names) → (∀ x ∈ near', x ∈ b.names) → near'.length ≤ 8 →
        Nx (sSet 5 (dAddL (dVar 5) (dVar 7)) [some (.cell k), some (.d (ePl b)), some (.d (eS s)), some (.d (eDo (tabG b (rk b s b.lines.length)))), some (.cell len), some (.cell (len + (1 + j.length))), some (.d (eN n)), some (.d (.lst (near'.map eN))), none] (B i ++ some (.dic false (eTl (f ++ [(n, o)]))) :: (j ++ [some (.lst (w0.map eN))])))
          fun e s' => ∃ f' w' i' j' y6 y7, PInv b f' w' ∧ 9 * (8 - f'.length) + w'.length < 9 * (8 - f.length) + (w0.length + 1) ∧ j'.all plainC = true ∧
            e = [some (.cell k), some (.d (ePl b)), some (.d (eS s)), some (.d (eDo (tabG b (rk b s b.lines.length)))), some (.cell len), some (.cell (len + (1 + j'.length))), y6, y7, none] ∧ s' = B i' ++ some (.dic false (eTl f')) :: (j' ++ [some (.lst (w'.map eN))]) := fun o near' i ho hne hl => by
      obtain ⟨h1, h2⟩ := hsub o ho
      have h1' : f.length + 1 ≤ 8 := by rw [List.length_append] at h1; exact h1
      refine Nx.eq (trap_end dw ok hs i j (by omega) ..) ⟨f ++ [(n, o)], w0 ++ near', i, j ++ [some (.lst (w0.map eN))], _, _, h2 _ fun x hx => (List.mem_append.mp hx).elim (hw0n x) (hne x), ?_, by rw [List.all_append, hj]; rfl, rfl, rfl⟩
      rw [List.length_append, List.length_append]
      show 9 * (8 - (f.length + 1)) + _ < _
      omega
    simp only [evs, hf, e4, e5', ix_pl0, ix_eRs hn, ix_rw0]
    by_cases h2 : (b.fl n).side = 2
    · cases hz : near.isEmpty with
      | true =>
        have := fin none near i (fun x e => nomatch e) hnear hnl
        simp only [evs] at this
        simp only [evs, h2, q0, hz, this]
      | false =>
        have hne : near ≠ [] := fun e => by rw [e] at hz; cases hz
        have dw2 := dw.app (r := some (.dic false (eTl (f ++ [(n, none)]))) :: (j ++ [some (.lst (w0.map eN))])) (by rw [List.all_cons, List.all_append, hj]; rfl)
        obtain ⟨x, hx, i', hp⟩ := L_pick dw2 i (l := near.map eN) (by simpa using hne) (by rw [List.length_map]; omega)
        obtain ⟨o, ho, rfl⟩ := List.mem_map.mp hx
        have hon := hnear o ho
        have e6 := trap_put dw ok hs i' (f := f ++ [(n, none)]) (by rw [List.length_append]; show _ + 1 ≤ _; omega) n (some o) (j ++ [some (.lst (w0.map eN))])
        have e7 : dPut (f ++ [(n, none)]) n (some o) = f ++ [(n, some o)] := by
          unfold dPut
          rw [if_pos (by simp), List.map_append]
          congr 1
          · refine (List.map_congr_left fun p hp => ?_).trans (List.map_id _)
            rw [if_neg fun (e : p.1 = n) => hf (by rw [← e]; exact List.mem_map_of_mem hp)]
            rfl
          · simp
        rw [e7] at e6
        have e6' : putI (.cell len) (.d (eN n)) (.d (eN o)) (B i' ++ some (.dic false (eTl (f ++ [(n, none)]))) :: (j ++ [some (.lst (w0.map eN))])) = .ok (.d .non) (B i' ++ some (.dic false (eTl (f ++ [(n, some o)]))) :: (j ++ [some (.lst (w0.map eN))])) := e6
        have hlk : (f ++ [(n, some o)]).lookup n = some (some o) := by
          rw [lookup_app]
          have : f.lookup n = none := lookup_none hf
          rw [this]
          simp
        have e8 : ∀ st, ixD (eTr (f ++ [(n, some o)])) (eN n) st = .ok (eN o) st := fun st => ix_eTr hlk st
        have := fin (some o) [o] i' (fun x e => by cases e; exact hon) (fun x hx => by rw [List.mem_singleton] at hx; rw [hx]; exact hon) (by simp)
        simp only [evs] at this
        simp only [evs, h2, q0, hz, hp, e6', e3, e8]
        exact this
    · have := fin none near i (fun x e => nomatch e) hnear hnl
      simp only [evs] at this
      simp only [evs, h2, this]
theorem trap_while : ∀ (m : Nat) (i : ι) (f : Tr) (j : Sto) (w : List Str) (x6 x7 : Option Val), PInv b f w → j.all plainC = true → 9 * (8 - f.length) + w.length < m → m ≤ 5000 →
    ∃ i' f' j' y5 y6 y7, PInv b f' [] ∧ j'.all plainC = true ∧ whileD T__law_trap_0 L__law_trap_1 m [some (.cell k), some (.d (ePl b)), some (.d (eS s)), some (.d (eDo (tabG b (rk b s b.lines.length)))), some (.cell len), some (.cell (len + (1 + j.length))), x6, x7, none] (B i ++ some (.dic false (eTl f)) :: (j ++ [some (.lst (w.map eN))])) =
      .nx [some (.cell k), some (.d (ePl b)), some (.d (eS s)), some (.d (eDo (tabG b (rk b s b.lines.length)))), some (.cell len), y5, y6, y7, none] (B i' ++ some (.dic false (eTl f')) :: j') := by
  intro m
  induction m with
  | zero => intro i f j w x6 x7 _ _ h; omega
  | succ m ih =>
    intro i f j w x6 x7 inv hj hm hm2
    have ht := trap_T dw ok hs i f j inv.w (some (.cell k)) (some (.d (ePl b))) (some (.d (eS s))) (some (.d (eDo (tabG b (rk b s b.lines.length))))) (some (.cell len)) x6 x7 none
    cases z : w.getLast? with
    | none =>
      have hw0 : w = [] := List.getLast?_eq_none_iff.mp z
      subst hw0
      rw [ev_whileF (by rw [ht]; rfl)]
      exact ⟨i, f, j ++ [some (.lst [])], _, _, _, inv, by rw [List.all_append, hj]; rfl, rfl⟩
    | some n =>
      obtain ⟨w0, rfl⟩ : ∃ w0, w = w0 ++ [n] := by
        refine ⟨w.dropLast, ?_⟩
        have hne : w ≠ [] := fun e => by rw [e] at z; cases z
        have h1 := List.dropLast_concat_getLast hne
        rw [List.getLast?_eq_some_getLast hne] at z
        rw [← Option.some.inj z]
        exact h1.symm
      rw [List.length_append] at hm
      have hlen1 : ([n] : List Str).length = 1 := rfl
      obtain ⟨e, s', h1, f', w', i', j', y6, y7, inv', hmm, hj', rfl, rfl⟩ := trap_turn dw ok hs i hj inv (by omega) x6 x7
      have he : (w0 ++ [n]).isEmpty = false := by simp
      rw [he] at ht
      rw [ev_whileT (by rw [ht]; rfl) h1]
      exact ih i' f' j' w' y6 y7 inv' hj' (by omega) (by omega)
end
theorem ev_dPop1 (fd fk : DE) (e : DEnv) (s : Sto) : dPop1 fd fk e s = (fd e s).bind fun d => bnd (isTg isDc d) fun _ => bnd (fk e) fun k => popD d k := rfl
theorem ev_isDcC {k : Nat} {s : Sto} {b : Bool} {l : List (D × D)} (h : s[k]? = some (some (.dic b l))) : isTg isDc (.cell k) s = .ok () s := by
  show bnd _ _ _ = _
  rw [ev_bnd]
  have : tagV (.cell k) s = .ok .dic s := by unfold tagV; simp only [h]
  rw [this]
  rfl
theorem drp_names {β : Type} (enc : β → D) (n : Str) (l : List (Str × β)) : drp (eN n) (l.map fun p => (eN p.1, enc p.2)) = (l.filter fun p => !decide (p.1 = n)).map fun p => (eN p.1, enc p.2) := by
  unfold drp
  rw [List.filter_map]
  refine congrArg (List.map _) (List.filter_congr fun p _ => ?_)
  show (!keyEq (eN p.1) (eN n)) = _
  rw [keyEq_eN]
theorem ev_popD {k : Nat} {s : Sto} {l : List (D × D)} {x r : D} (h : s[k]? = some (some (.dic false l))) (hk : isKey false x = true) (hl : Fb.look x l = some r) : popD (.cell k) (.d x) s = .ok (.d r) (s.set k (some (.dic false (drp x l)))) := by
  unfold popD
  simp only [h, hk, hl, if_true]
section
variable {k len : Nat} {ι : Type} {B : ι → Sto} (dw : Dw G__law_next k B len) {b : Bd} (ok : OkB b) {s : List Mv} (hs : SOk s)
include dw ok hs
theorem L_trap (i : ι) : ∃ t i', TrOk b t ∧ G__law_trap [.cell k, .d (ePl b), .d (eS s)] [] (B i) = .ok (.d (eTr t)) (B i') := by
  have hfar := L_far ok hs (dw.wf i)
  have ed : distances b s = tabG b (rk b s b.lines.length) := by
    unfold distances tabG
    exact List.map_congr_left fun n hn => by rw [dist_rk ok (Nat.le_refl _) hn]
  rw [ed] at hfar
  have hl1 : ∀ i (c : Option Cel), (B i ++ [c]).length = len + 1 := fun i c => by rw [List.length_append, dw.hl]; rfl
  have ha : ∀ i (x y : Option Cel), B i ++ [x] ++ [y] = B i ++ [x, y] := fun i x y => by rw [List.append_assoc]; rfl
  obtain ⟨i1, f, j, y5, y6, y7, inv, hj, hwh⟩ := trap_while dw ok hs 1000 i [] [] [b.start] none none ⟨by simp [tkeys], fun p hp => (nomatch hp), fun n hn => by rw [List.mem_singleton] at hn; rw [hn]; exact ok.start⟩ rfl (by simp) (by omega)
  have hwh' : whileD T__law_trap_0 L__law_trap_1 1000 [some (.cell k), some (.d (ePl b)), some (.d (eS s)), some (.d (eDo (tabG b (rk b s b.lines.length)))), some (.cell len), some (.cell (len + 1)), none, none, none] (B i ++ [some (.dic false []), some (.lst [eN b.start])]) =
      .nx [some (.cell k), some (.d (ePl b)), some (.d (eS s)), some (.d (eDo (tabG b (rk b s b.lines.length)))), some (.cell len), y5, y6, y7, none] (B i1 ++ some (.dic false (eTl f)) :: j) := hwh
  have el : ∀ st, listD false (.dic false (eRs b.lines)) st = .ok (.d (.lst (b.names.map eN))) st := fun st => by
    show Rs.ok (Val.d (.lst ((eRs b.lines).map (·.1)))) st = _
    rw [keys_eRs]
    unfold Bd.names
    rw [List.map_map]
    rfl
  have hlen : b.names.length ≤ 8 := by rw [names_len]; exact ok.len
  have hfl := PInv.size dw ok hs inv
  have dw2 : ∀ f : Tr, Dw G__law_next k (fun i => B i ++ (some (.dic false (eTl f)) :: j)) (len + (some (Cel.dic false (eTl f)) :: j).length) := fun f => dw.app (r := some (.dic false (eTl f)) :: j) (by rw [List.all_cons, hj]; rfl)
  obtain ⟨r3, i2, _, _, h3⟩ := (dw2 f).here i1 (m := 3) (by decide) (by decide)
  have e3 : ∀ (i : ι) (f : Tr) (r : Sto), snap (.cell len) (B i ++ some (.dic false (eTl f)) :: r) = .ok (eTr f) (B i ++ some (.dic false (eTl f)) :: r) := fun i f r => dw.snapD i false _ r
  have hz : ∀ (i : ι) (f : Tr) e, frzV e 4 len (B i ++ some (.dic false (eTl f)) :: j) = .nx (e.set 4 (some (.d (eTr f)))) (B i ++ none :: j) := fun i f e => by
    rw [frzV_dic _ _ _ _ _ _ (dw.get ..), dw.set]
    rfl
  have htr : ∀ f : Tr, (tkeys f).Nodup → (∀ p ∈ f, p.1 ∈ b.names ∧ ∀ o, p.2 = some o → o ∈ b.names) → f.length ≤ 1000 → TrOk b f := fun f h1 h2 h3 => ⟨fun p hp => (h2 p hp).1, fun p hp => (h2 p hp).2, h3, h1⟩
  simp only [G__law_trap, dS__law_trap, evs, Nat.reduceSub, List.reduceReplicate, hfar, dw.hl, ix_pl1, hl1, ha, hwh', h3]
  by_cases h0 : r3 = 0
  · obtain ⟨x, hx, i3, hp⟩ := L_pick (dw2 f) i2 (l := b.names.map eN) (by simpa using List.ne_nil_of_mem ok.start) (by rw [List.length_map]; omega)
    obtain ⟨n, hn, rfl⟩ := List.mem_map.mp hx
    by_cases hf : n ∈ tkeys f
    · obtain ⟨v, hv, _⟩ := lookup_mem hf
      have hpop : popD (.cell len) (.d (eN n)) (B i3 ++ some (.dic false (eTl f)) :: j) = .ok (.d (eOs v)) (B i3 ++ some (.dic false (eTl (f.filter fun p => !decide (p.1 = n)))) :: j) := by
        rw [ev_popD (r := eOs v) (dw.get ..) (isKey_eN n) (by unfold eTl; rw [look_names eOs, hv]; rfl), dw.set]
        unfold eTl
        rw [drp_names]
      have hdc : isTg isDc (.cell len) (B i3 ++ some (.dic false (eTl f)) :: j) = .ok () (B i3 ++ some (.dic false (eTl f)) :: j) := ev_isDcC (dw.get ..)
      refine ⟨f.filter fun p => !decide (p.1 = n), i3, htr _ ?_ (fun p hp => inv.k p (List.mem_filter.mp hp).1) (Nat.le_trans (List.length_filter_le _ _) (by omega)), ?_⟩
      · exact List.Sublist.nodup (List.Sublist.map _ List.filter_sublist) inv.nd
      · simp only [evs, h0, ix_pl0, el, hp, e3, in_eTr, hf, ev_dPop1, hdc, hpop, hz, dw.trunc]
    · obtain ⟨x, hx, i4, hp4⟩ := L_pick (dw2 f) i3 (l := .non :: b.names.map eN) (by simp) (by rw [List.length_cons, List.length_map]; omega)
      obtain ⟨o, ho, rfl⟩ : ∃ o : Option Str, (∀ z, o = some z → z ∈ b.names) ∧ x = eOs o := by
        rcases List.mem_cons.mp hx with h | h
        · exact ⟨none, fun z e => (nomatch e), h⟩
        · obtain ⟨z, hz, e⟩ := List.mem_map.mp h
          exact ⟨some z, fun y e => by cases e; exact hz, e.symm⟩
      have hadd : ∀ st, binD .add (.lst [.non]) (.lst (b.names.map eN)) st = .ok (.lst (.non :: b.names.map eN)) st := fun st => by
        rw [ev_addL _ _ _ (by rw [List.length_map]; unfold PySem.sizeLine; simp; omega)]
        rfl
      have hput := trap_put dw ok hs i4 (f := f) (by omega) n o j
      refine ⟨dPut f n o, i4, htr _ (dPut_nd inv.nd n o) (fun p hp => (dPut_mem hp).elim (inv.k p) fun e => by rw [e]; exact ⟨hn, ho⟩) (by have := dPut_len f n o; omega), ?_⟩
      simp only [evs, h0, ix_pl0, el, hp, e3, in_eTr, hf, hadd, hp4, hput, hz, dw.trunc]
  · refine ⟨f, i2, htr f inv.nd inv.k (by omega), ?_⟩
    simp only [evs, h0, hz, dw.trunc]
end
end Pg
/-! FrM -/
/-! FrM: == of lists and dicts of names. -/
namespace Pg
open PySem Fb
theorem eqL_map {α : Type} [DecidableEq α] (f : α → D) (h : ∀ a b, eqD (f a) (f b) = decide (a = b)) : ∀ l m : List α, eqL (l.map f) (m.map f) = decide (l = m)
  | [], [] => rfl
  | [], _ :: _ => rfl
  | _ :: _, [] => rfl
  | a :: r, b :: t => by
    show (eqD (f a) (f b) && eqL (r.map f) (t.map f)) = _
    rw [h, eqL_map f h r t]
    by_cases x : a = b <;> by_cases y : r = t <;> simp [x, y]
theorem eqD_names (l m : List Str) : eqD (.lst (l.map eN)) (.lst (m.map eN)) = decide (l = m) := by
  show eqL _ _ = _
  exact eqL_map eN eqD_eN l m
theorem eqD_eS (s t : List Mv) : eqD (eS s) (eS t) = decide (s = t) := by
  show eqL _ _ = _
  exact eqL_map eM eqD_eM s t
theorem eqD_lstS (l m : List (List Mv)) : eqD (.lst (l.map eS)) (.lst (m.map eS)) = decide (l = m) := by
  show eqL _ _ = _
  exact eqL_map eS eqD_eS l m
theorem eqP_sub {β : Type} (enc : β → D) (h : ∀ v, eqD (enc v) (enc v) = true) (m : List (Str × β)) (nd : (m.map (·.1)).Nodup) : ∀ l : List (Str × β), (∀ p ∈ l, p ∈ m) → eqP (l.map fun p => (eN p.1, enc p.2)) (m.map fun p => (eN p.1, enc p.2)) = true
  | [], _ => rfl
  | p :: r, hl => by
    show ((match look (eN p.1) (m.map fun p => (eN p.1, enc p.2)) with | some v' => eqD (enc p.2) v' | none => false) && eqP (r.map fun p => (eN p.1, enc p.2)) (m.map fun p => (eN p.1, enc p.2))) = true
    rw [look_names enc, lookup_nd nd (hl p (List.mem_cons_self ..)), eqP_sub enc h m nd r fun q hq => hl q (List.mem_cons_of_mem _ hq), Bool.and_true]
    exact h p.2
theorem eqD_dic {β : Type} (enc : β → D) (h : ∀ v, eqD (enc v) (enc v) = true) {m : List (Str × β)} (nd : (m.map (·.1)).Nodup) (t u : Bool) : eqD (.dic t (m.map fun p => (eN p.1, enc p.2))) (.dic u (m.map fun p => (eN p.1, enc p.2))) = true := by
  show (_ == _ && eqP _ _) = true
  rw [eqP_sub enc h m nd m fun p hp => hp]
  simp
theorem okQ_dic {β γ : Type} (enc : β → D) (enc' : γ → D) (h : ∀ v, isFlat (enc v) = true) (h' : ∀ v, isFlat (enc' v) = true) (l : List (Str × β)) (m : List (Str × γ)) : okQ (.dic false (l.map fun p => (eN p.1, enc p.2))) (.dic false (m.map fun p => (eN p.1, enc' p.2))) = true := by
  have key : ∀ {β : Type} (enc : β → D) (h : ∀ v, isFlat (enc v) = true) (l : List (Str × β)), isFlatDic (.dic false (l.map fun p => (eN p.1, enc p.2))) = true := fun enc h l => by
    show (l.map fun p => (eN p.1, enc p.2)).all _ = true
    rw [List.all_map]
    refine List.all_eq_true.mpr fun p _ => ?_
    show (true && isFlat (enc p.2)) = true
    rw [h]
    rfl
  unfold okQ
  rw [key enc h l, key enc' h' m]
  simp
theorem eqO_self (v : Option Int) : eqD (eO v) (eO v) = true := by
  cases v with
  | none => rfl
  | some i => exact (eqD_int i i).trans (by simp)
theorem flat_eO (v : Option Int) : isFlat (eO v) = true := by cases v <;> rfl
theorem eq_eDo {d : List (Str × Option Int)} (nd : (d.map (·.1)).Nodup) : okQ (eDo d) (eDo d) = true ∧ eqD (eDo d) (eDo d) = true := ⟨okQ_dic eO eO flat_eO flat_eO d d, eqD_dic eO eqO_self nd false false⟩
theorem dist_keys (b : Bd) (s : List Mv) : (distances b s).map (·.1) = b.names := by
  unfold distances
  rw [List.map_map]
  exact (List.map_congr_left fun _ _ => rfl).trans (List.map_id _)
theorem dist_tab (b : Bd) (s : List Mv) : distances b s = tabG b fun n => (distancesOf b s).lookup n := rfl
theorem list_eDo (b : Bd) (s : List Mv) (st : Sto) : listD false (eDo (distances b s)) st = .ok (.d (.lst (b.names.map eN))) st := by
  show Rs.ok (Val.d (.lst (((distances b s).map fun p => (eN p.1, eO p.2)).map (·.1)))) st = _
  rw [List.map_map]
  have e : ((fun x : D × D => x.1) ∘ fun p : Str × Option Int => (eN p.1, eO p.2)) = eN ∘ (·.1) := rfl
  rw [e, ← List.map_map, dist_keys]
theorem setsL_keep (mv : List Mv) {s : List Mv} : ∀ (n : Nat) (f l : List (List Mv)), s ∈ f → s ∈ setsL mv n f l
  | 0, _, _, h => h
  | n + 1, f, l, h => by
    unfold setsL
    split
    · exact h
    · exact setsL_keep mv n _ _ (List.mem_append_left _ h)
theorem allSets_ne (b : Bd) : allSets b ≠ [] := List.ne_nil_of_mem (setsL_keep b.moves 1000 [[]] [[]] (List.mem_singleton_self []))
theorem wins_look {b : Bd} (ok : OkB b) (s : List Mv) : ((distancesOf b s).lookup b.start).isNone = !wins b s := by
  unfold wins
  rw [keys_lookup ok]
  cases (distancesOf b s).lookup b.start <;> rfl
theorem ix_start {b : Bd} (ok : OkB b) (s : List Mv) (st : Sto) : ixD (eDo (distances b s)) (eN b.start) st = .ok (eO ((distancesOf b s).lookup b.start)) st := by
  rw [dist_tab]
  exact ix_tab _ ok.start st
/-! ### range(0, n, c) -/
theorem ev_rng3 (i j c : Int) (s : Sto) (h : c ≠ 0 ∧ c.natAbs < 1073741824 ∧ Builtin.Range.small i j c = true ∧ 0 ≤ Builtin.Range.rangeSize i j c) : rng3 [.d (.int i), .d (.int j), .d (.int c)] s = .ok (.its (uptoC i c (Builtin.Range.rangeSize i j c).toNat)) s := by
  have e : rng3 [.d (.int i), .d (.int j), .d (.int c)] = (if c ≠ 0 ∧ c.natAbs < 1073741824 ∧ Builtin.Range.small i j c = true ∧ 0 ≤ Builtin.Range.rangeSize i j c then ret (.its (uptoC i c (Builtin.Range.rangeSize i j c).toNat)) else stk) := rfl
  rw [e, if_pos h]
  rfl
theorem rng3_k (c : Int) (hc : c = 3 ∨ c = 4) (n : Nat) (hn : n ≤ 24) (s : Sto) : ∃ m, rng3 [.d (.int 0), .d (.int (n : Nat)), .d (.int c)] s = .ok (.its ((List.range m).map fun i => .int (0 + (i : Nat) * c))) s := by
  have h : ∀ n : Nat, n < 25 → ((3 : Int) ≠ 0 ∧ (3 : Int).natAbs < 1073741824 ∧ Builtin.Range.small 0 (n : Nat) 3 = true ∧ 0 ≤ Builtin.Range.rangeSize 0 (n : Nat) 3) := by decide +kernel
  have h4 : ∀ n : Nat, n < 25 → ((4 : Int) ≠ 0 ∧ (4 : Int).natAbs < 1073741824 ∧ Builtin.Range.small 0 (n : Nat) 4 = true ∧ 0 ≤ Builtin.Range.rangeSize 0 (n : Nat) 4) := by decide +kernel
  refine ⟨(Builtin.Range.rangeSize 0 (n : Nat) c).toNat, ev_rng3 _ _ _ s ?_⟩
  rcases hc with e | e <;> rw [e]
  · exact h n (by omega)
  · exact h4 n (by omega)
end Pg
/-! FmF -/
/-! FmF: distances are ranks; traps against sets. -/
namespace Pg
open PySem Fb
theorem rk_why {b : Bd} {s : List Mv} {n : Str} {v : Int} : ∀ {k : Nat}, rk b s k n = some v → wonAt b s n = true ∨ ∃ j : Nat, j < k ∧ v = (j : Int) + 1 ∧ leadsP b s (fun o => (rk b s j o).isSome) n = true
  | 0, h => by
    unfold rk at h
    split at h
    · rename_i w; exact .inl w
    · cases h
  | k + 1, h => by
    have h : (match rk b s k n with | some i => some i | none => if leadsP b s (fun o => (rk b s k o).isSome) n then some ((k : Int) + 1) else none) = some v := h
    cases q : rk b s k n with
    | some i =>
      rw [q] at h
      cases h
      rcases rk_why q with w | ⟨j, h1, h2, h3⟩
      · exact .inl w
      · exact .inr ⟨j, by omega, h2, h3⟩
    | none =>
      rw [q] at h
      dsimp only at h
      split at h
      · rename_i z
        cases h
        exact .inr ⟨k, by omega, rfl, z⟩
      · cases h
section
variable {b : Bd} (ok : OkB b) {s : List Mv}
include ok
theorem dist_sub : ∀ n ∈ keys (distancesOf b s), n ∈ b.names := (dist_end ok).sub
theorem dist_ranks (h : b.start ∈ keys (distancesOf b s)) : ranksOk b s (distancesOf b s) = true := by
  unfold ranksOk
  rw [decide_eq_true h, Bool.true_and, List.all_eq_true]
  intro n hn
  have hnn := dist_sub ok n hn
  obtain ⟨v, hv, _⟩ := lookup_mem hn
  have hr := hv
  rw [dist_rk ok (Nat.le_refl _) hnn] at hr
  unfold rankOk
  rcases rk_why hr with w | ⟨j, hj, e, hl⟩
  · unfold wonAt at w
    rw [Bool.or_eq_true, Bool.and_eq_true] at w
    rcases w with w | ⟨w1, w2⟩
    · rw [w, Bool.true_or]
    · have h2 := of_decide_eq_true w1
      have : ¬ (b.fl n).side = 1 := by omega
      rw [if_neg this, List.isEmpty_iff.mp w2]
      simp
  · have key : ∀ o ∈ ways b n s, (rk b s j o).isSome = true → (match (distancesOf b s).lookup o, (distancesOf b s).lookup n with | some x, some y => decide (x < y) | _, _ => false) = true := fun o ho hs => by
      obtain ⟨w, hw⟩ := Option.isSome_iff_exists.mp hs
      have hon := ok.closed n hnn o (ways_sub ho)
      have h1 := rk_le hw
      have h2 := rk_keep hw (b.lines.length - j)
      rw [show j + (b.lines.length - j) = b.lines.length by omega, ← dist_rk ok (Nat.le_refl _) hon] at h2
      rw [hv, h2]
      exact decide_eq_true (by omega)
    rw [Bool.or_eq_true]
    right
    unfold leadsP at hl
    split at hl
    · rename_i h1
      rw [if_pos h1]
      rw [List.any_eq_true] at hl ⊢
      obtain ⟨o, ho, hs⟩ := hl
      exact ⟨o, ho, key o ho hs⟩
    · rename_i h1
      rw [if_neg h1]
      rw [List.all_eq_true] at hl ⊢
      exact fun o ho => key o ho (hl o ho)
theorem against_shows {sets : List (List Mv)} (h : ∀ s ∈ sets, b.start ∉ keys (distancesOf b s)) : againstOk b (against b sets) sets = true := by
  have go : ∀ (l : List (List Mv)) (f : List Tr), (∀ s ∈ l, b.start ∉ keys (distancesOf b s)) → f.all (trapOk b) = true →
      (l.foldl (againstS b) f).all (trapOk b) = true ∧ (∀ t ∈ f, t ∈ l.foldl (againstS b) f) ∧ ∀ s ∈ l, (l.foldl (againstS b) f).any (holdsAg b s) = true := by
    intro l
    induction l with
    | nil => intro f _ hf; exact ⟨hf, fun t ht => ht, fun s hs => (nomatch hs)⟩
    | cons s r ih =>
      intro f hl hf
      have th := trap_holds ok (hl s (List.mem_cons_self ..))
      unfold holdsT at th
      rw [Bool.and_eq_true] at th
      have step : (againstS b f s).all (trapOk b) = true ∧ (∀ t ∈ f, t ∈ againstS b f s) ∧ (againstS b f s).any (holdsAg b s) = true := by
        unfold againstS
        split
        · rename_i z; exact ⟨hf, fun t ht => ht, z⟩
        · exact ⟨by rw [List.all_append, hf]; simp [th.1], fun t ht => List.mem_append_left _ ht, by rw [List.any_append]; simp [th.2]⟩
      obtain ⟨g1, g2, g3⟩ := step
      obtain ⟨k1, k2, k3⟩ := ih (againstS b f s) (fun u hu => hl u (List.mem_cons_of_mem _ hu)) g1
      refine ⟨k1, fun t ht => k2 t (g2 t ht), fun u hu => ?_⟩
      rcases List.mem_cons.mp hu with e | e
      · rw [e]
        rw [List.any_eq_true] at g3 ⊢
        obtain ⟨t, h1, h2⟩ := g3
        exact ⟨t, k2 t h1, h2⟩
      · exact k3 u e
  obtain ⟨h1, _, h3⟩ := go sets [] h rfl
  unfold againstOk against
  rw [h1, Bool.true_and, List.all_eq_true]
  exact h3
/-- the law's judge asks the same -/
theorem against_T (ts : List Tr) (sets : List (List Mv)) : (ts.all (trapOk b) && sets.all fun s => ts.any (holdsT b s)) = againstOk b ts sets := by
  unfold againstOk
  cases h : ts.all (trapOk b) with
  | false => rfl
  | true =>
    rw [Bool.true_and, Bool.true_and]
    rw [List.all_eq_true] at h
    have : ∀ s, ts.any (holdsT b s) = ts.any (holdsAg b s) := fun s => by
      rw [Bool.eq_iff_iff, List.any_eq_true, List.any_eq_true]
      refine ⟨fun ⟨t, h1, h2⟩ => ⟨t, h1, ?_⟩, fun ⟨t, h1, h2⟩ => ⟨t, h1, ?_⟩⟩
      · unfold holdsT at h2
        rw [Bool.and_eq_true] at h2
        exact h2.2
      · unfold holdsT
        rw [h t h1, h2]
        rfl
    simp only [this]
/-- the cheapest winning set: nothing cheaper wins -/
theorem best_shows {t : List Mv} (h : bestOf b = some t) : (t ∈ goodSets b) ∧ showsF b t (distancesOf b t) (against b ((allSets b).filter fun u => decide (costOf b u < costOf b t))) = true := by
  obtain ⟨h1, h2, _⟩ := best_spec ok (goodSets b) none
  have hm : t ∈ goodSets b := by
    rcases h1 t h with z | z
    · exact z
    · cases z
  have hmin := (h2 t h).1
  have hw : wins b t = true := (List.mem_filter.mp hm).2
  unfold wins at hw
  refine ⟨hm, ?_⟩
  unfold showsF
  rw [dist_ranks ok (of_decide_eq_true hw), Bool.true_and]
  refine against_shows ok fun u hu z => ?_
  obtain ⟨k1, k2⟩ := List.mem_filter.mp hu
  have k2 := of_decide_eq_true k2
  have : u ∈ goodSets b := List.mem_filter.mpr ⟨k1, by unfold wins; exact decide_eq_true z⟩
  have := hmin u this
  omega
theorem none_shows (h : bestOf b = none) : goodSets b = [] ∧ showsN b (against b (allSets b)) = true := by
  obtain ⟨_, _, h3⟩ := best_spec ok (goodSets b) none
  have he := (h3 h).1
  refine ⟨he, against_shows ok fun u hu z => ?_⟩
  have : u ∈ goodSets b := List.mem_filter.mpr ⟨hu, by unfold wins; exact decide_eq_true z⟩
  rw [he] at this
  cases this
end
end Pg
/-! FrN -/
/-! FrN: sets and pairs of sets compared. -/
namespace Pg
open PySem Fb
theorem ev_def5 (a : DS) (s : Sto) (n : Nat) (x y z t u : Val) : posG (fnD 5 n a) [] [x, y, z, t, u] [] s = (a (some x :: some y :: some z :: some t :: some u :: List.replicate (n - 5) none) s).fin s.length := ev_fnD s a 5 n [x, y, z, t, u] rfl
theorem dataS (n : Nat) {s : List Mv} (hs : SOk s) : isData (n + 3) (eS s) = true := by
  unfold eS
  rw [isData_tup]
  refine List.all_eq_true.mpr fun d hd => ?_
  obtain ⟨m, hm, rfl⟩ := List.mem_map.mp hd
  exact isData_eM (hs m hm)
theorem dataSs (n : Nat) {l : List (List Mv)} (h : ∀ s ∈ l, SOk s) : (l.map eS).all (isData (n + 3)) = true := by
  refine List.all_eq_true.mpr fun d hd => ?_
  obtain ⟨s, hs, rfl⟩ := List.mem_map.mp hd
  exact dataS n (h s hs)
theorem inL_sets (s : List Mv) : ∀ l : List (List Mv), inL (eS s) (l.map eS) = decide (s ∈ l)
  | [] => rfl
  | t :: r => by
    show (eqD (eS t) (eS s) || inL (eS s) (r.map eS)) = _
    rw [eqD_eS, inL_sets s r]
    by_cases h : t = s
    · subst h; simp
    · have : s ≠ t := fun e => h e.symm
      simp [h, this]
theorem in_sets {s : List Mv} {l : List (List Mv)} (hs : SOk s) (hl : ∀ t ∈ l, SOk t) (st : Sto) : inD (eS s) (eSs l) st = .ok (decide (s ∈ l)) st := by
  unfold eSs
  rw [ev_inL _ _ _ (dataS 5 hs) (dataSs 4 hl), inL_sets]
theorem ne_sets {l : List (List Mv)} (hl : ∀ t ∈ l, SOk t) (st : Sto) : cmpD .ne (eSs l) (eSs l) st = .ok false st := by
  have h : okQ (eSs l) (eSs l) = true := by
    unfold okQ eSs
    rw [isData_lst, dataSs 4 hl]
    rfl
  rw [ev_ne _ _ _ h]
  unfold eSs
  rw [eqD_lstS, decide_eq_true rfl]
  rfl
theorem ne_set {s : List Mv} (hs : SOk s) (st : Sto) : cmpD .ne (eS s) (eS s) st = .ok false st := by
  have h : okQ (eS s) (eS s) = true := by
    unfold okQ
    rw [dataS 5 hs]
    rfl
  rw [ev_ne _ _ _ h, eqD_eS, decide_eq_true rfl]
  rfl
theorem eqD_eP (p q : List Mv × List Mv) : eqD (eP p) (eP q) = decide (p = q) := by
  show (eqD (eS p.1) (eS q.1) && (eqD (eS p.2) (eS q.2) && true)) = _
  rw [eqD_eS, eqD_eS]
  obtain ⟨a, b⟩ := p
  obtain ⟨c, d⟩ := q
  by_cases h1 : a = c <;> by_cases h2 : b = d <;> simp [h1, h2]
theorem ne_pairs {l : List (List Mv × List Mv)} (hl : ∀ p ∈ l, SOk p.1 ∧ SOk p.2) (st : Sto) : cmpD .ne (.lst (l.map eP)) (.lst (l.map eP)) st = .ok false st := by
  have hd : (l.map eP).all (isData 7) = true := by
    refine List.all_eq_true.mpr fun d hd => ?_
    obtain ⟨p, hp, rfl⟩ := List.mem_map.mp hd
    unfold eP
    rw [isData_tup]
    show (isData 6 (eS p.1) && (isData 6 (eS p.2) && true)) = true
    rw [dataS 3 (hl p hp).1, dataS 3 (hl p hp).2]
    rfl
  have h : okQ (.lst (l.map eP)) (.lst (l.map eP)) = true := by
    unfold okQ
    rw [isData_lst, hd]
    rfl
  rw [ev_ne _ _ _ h]
  have e : eqD (.lst (l.map eP)) (.lst (l.map eP)) = true := by
    show eqL _ _ = _
    rw [eqL_map eP eqD_eP, decide_eq_true rfl]
  rw [e]
  rfl
theorem pairs_mem {lo up : List (List Mv)} {p : List Mv × List Mv} (h : p ∈ pairsOf lo up) : p.1 ∈ lo ∧ p.2 ∈ up := by
  unfold pairsOf at h
  obtain ⟨s, hs, h⟩ := List.mem_flatMap.mp h
  obtain ⟨t, ht, e⟩ := List.mem_map.mp h
  rw [← e]
  exact ⟨hs, (List.mem_filter.mp ht).1⟩
theorem ne_bl (a : Bool) (st : Sto) : cmpD .ne (.bl a) (.bl a) st = .ok false st := by rw [ev_neB]; cases a <;> rfl
theorem eq_bl (a : Bool) (st : Sto) : cmpD .eq (.bl a) (.bl a) st = .ok true st := by rw [ev_eqB]; cases a <;> rfl
theorem ne_int (a : Int) (st : Sto) : cmpD .ne (.int a) (.int a) st = .ok false st := by rw [ev_neI]; simp
/-- the first cheapest winning set, all sets looked at -/
theorem best_all (b : Bd) : ∀ (l : List (List Mv)) (o : Option (List Mv)), l.foldl (fun o s => if wins b s then bestS b o s else o) o = (l.filter (wins b)).foldl (bestS b) o
  | [], _ => rfl
  | s :: r, o => by
    rw [List.foldl_cons, best_all b r]
    cases h : wins b s with
    | true => rw [List.filter_cons_of_pos h]; rfl
    | false => rw [List.filter_cons_of_neg (by rw [h]; exact Bool.false_ne_true)]; rfl
theorem good_mem {b : Bd} {s : List Mv} (h : s ∈ allSets b) : decide (s ∈ goodSets b) = wins b s := by
  unfold goodSets
  cases q : wins b s with
  | true => exact decide_eq_true (List.mem_filter.mpr ⟨h, q⟩)
  | false => exact decide_eq_false fun z => by rw [(List.mem_filter.mp z).2] at q; cases q
end Pg
/-! FpO -/
/-! FpO: needless and needed moves. -/
namespace Pg
open PySem Fb
def lessOf (s : List Mv) (m : Mv) : List Mv := s.filter fun o => !decide (o = m)
def needlessOf (b : Bd) (s : List Mv) : List Mv := s.filter fun m => wins b (lessOf s m)
def neededOf (b : Bd) : List Mv := b.moves.filter fun m => (goodSets b).all fun s => decide (m ∈ s)
theorem ev_sThr (c : Nat) (e : DEnv) (s : Sto) : sThr c e s = .exc ⟨c, []⟩ e s := rfl
theorem sTry_exc {p q : DS} {m : Nat → Option Bool} {e e' : DEnv} {s s' : Sto} {x : Ex} (h : p e s = .exc x e' s') (hm : m x.c = some true) : sTry p m q e s = calmR (q e' s') := by
  unfold sTry
  rw [h]
  dsimp only
  rw [hm]
theorem sTry_nx {p q : DS} {m : Nat → Option Bool} {e e' : DEnv} {s s' : Sto} (h : p e s = .nx e' s') : sTry p m q e s = .nx e' s' := by
  unfold sTry
  rw [h]
theorem calm_rt (v : Val) (s : Sto) : calmR (.rt v s) = .rt v s := rfl
theorem ne_mv {x y : Mv} (hx : MOk x) (hy : MOk y) (st : Sto) : cmpD .ne (eM x) (eM y) st = .ok (!decide (x = y)) st := by
  have h : okQ (eM x) (eM y) = true := by
    unfold okQ
    rw [isData_eM hx, isData_eM hy]
    rfl
  rw [ev_ne _ _ _ h, eqD_eM]
theorem moves_data {l : List Mv} (hl : SOk l) : okQ (.lst (l.map eM)) (.lst (l.map eM)) = true := by
  unfold okQ
  rw [isData_lst, all_moves hl]
  rfl
theorem eqD_moves (l m : List Mv) : eqD (.lst (l.map eM)) (.lst (m.map eM)) = decide (l = m) := by
  show eqL _ _ = _
  exact eqL_map eM eqD_eM l m
theorem ne_moves {l : List Mv} (hl : SOk l) (st : Sto) : cmpD .ne (.lst (l.map eM)) (.lst (l.map eM)) st = .ok false st := by
  rw [ev_ne _ _ _ (moves_data hl), eqD_moves, decide_eq_true rfl]
  rfl
theorem eq_moves {l : List Mv} (hl : SOk l) (st : Sto) : cmpD .eq (.lst (l.map eM)) (.lst (l.map eM)) st = .ok true st := by
  rw [ev_eq _ _ _ (moves_data hl), eqD_moves, decide_eq_true rfl]
theorem bTup_moves (l : List Mv) (st : Sto) : tupD (.lst (l.map eM)) st = .ok (.d (eS l)) st := rfl
section
variable {b : Bd} (ok : OkB b) {st : Sto} (hw : Wf st)
include ok hw
theorem G_needless_ok {s : List Mv} (hs : isSt b s = true) (hn : s.length ≤ 1000) (h : wins b s = true) : G_needless [.d (eB b), .d (eS s)] [] st = .ok (.d (.lst ((needlessOf b s).map eM))) st := by
  have so := isSt_ok ok hs
  have h1 := G_cs_ok ok hw hs hn
  have h2 : G_wins [.d (eB b), .d (eS s)] [] st = .ok (.d (.bl (wins b s))) st := G_wins_ok ok so hw
  rw [h] at h2
  have lc : dLc (iSeq (dVar 1)) (tgN 2) (vT (dCallG G_wins (dCons (dVar 0) (dCons (dB bTuple (dCons (dLc (iSeq (dVar 1)) (tgN 3) (tCmp .ne (dVar 3) (dVar 2)) (dVar 3) [3] false) (dNil))) (dNil))))) (dVar 2) [2] false [some (.d (eB b)), some (.d (eS s)), none, none] st = .ok (.d (.lst ((needlessOf b s).map eM))) st :=
    ev_dLc (enc := eM) (E := fun m => [some (.d (eB b)), some (.d (eS s)), some (.d (eM m)), none]) (p := fun m => wins b (lessOf s m)) s eM (by simp only [evs, src_eS]) hw (by omega) (fun m _ => by simp only [evs]) (fun m hm s' w => by
      have inner : dLc (iSeq (dVar 1)) (tgN 3) (tCmp .ne (dVar 3) (dVar 2)) (dVar 3) [3] false [some (.d (eB b)), some (.d (eS s)), some (.d (eM m)), none] s' = .ok (.d (.lst ((lessOf s m).map eM))) s' :=
        ev_dLc (enc := eM) (E := fun o => [some (.d (eB b)), some (.d (eS s)), some (.d (eM m)), some (.d (eM o))]) (p := fun o => !decide (o = m)) s eM (by simp only [evs, src_eS]) w (by omega) (fun o _ => by simp only [evs]) (fun o ho s2 _ => by simp only [evs, ne_mv (so o ho) (so m hm)]) (fun o _ _ s2 _ => by simp only [evs])
      have h3 : G_wins [.d (eB b), .d (.tup ((lessOf s m).map eM))] [] s' = .ok (.d (.bl (wins b (lessOf s m)))) s' := G_wins_ok ok (fun o ho => so o (List.mem_filter.mp ho).1) w
      simp only [evs, inner, bTup_moves, h3]) (fun m _ _ s' _ => by simp only [evs])
  simp only [G_needless, dS_needless, evs, Nat.reduceSub, List.reduceReplicate, h1, h2, lc, trunc_self hw, Bool.not_true]
theorem G_needless_exc {s : List Mv} (hs : isSt b s = true) (hn : s.length ≤ 1000) (h : wins b s = false) : G_needless [.d (eB b), .d (eS s)] [] st = .exc ⟨9, []⟩ st := by
  have so := isSt_ok ok hs
  have h1 := G_cs_ok ok hw hs hn
  have h2 : G_wins [.d (eB b), .d (eS s)] [] st = .ok (.d (.bl (wins b s))) st := G_wins_ok ok so hw
  rw [h] at h2
  simp only [G_needless, dS_needless, evs, Nat.reduceSub, List.reduceReplicate, h1, h2, ev_sThr, seq_exc, fin_exc, trunc_self hw, Bool.not_false]
theorem G_needed_ok : G_needed [.d (eB b)] [] st = .ok (.d (.lst ((neededOf b).map eM))) st := by
  have h1 := G_cb_ok ok hw
  have h2 := G_parted_ok ok hw
  have hmv : SOk b.moves := ok.sok fun m h => h
  have hgl : (goodSets b).length ≤ 1000000 := by
    have := List.length_filter_le (wins b) (allSets b)
    have := sets_small ok
    show ((allSets b).filter _).length ≤ _
    omega
  have hix : ∀ st, ixD (.tup [eSs (goodSets b), eSs (badSets b)]) (.int 0) st = .ok (eSs (goodSets b)) st := fun st => rfl
  have hfe : ∀ st, getF fd_fees (.d (eB b)) st = .ok (.d (eFe b.fees)) st := fun st => rfl
  have hsr : ∀ st, srcOf (.d (eFe b.fees)) st = .ok (.its (b.moves.map eM)) st := fun st => by
    show Rs.ok (Src.its ((b.fees.map fun p => (eM p.1, D.int p.2)).map (·.1))) st = _
    unfold Bd.moves
    rw [List.map_map, List.map_map]
    rfl
  have lc : dLc (iSeq (dFld fd_fees (dVar 0))) (tgN 2) (vT (dB bAll (dCons (dLc (iSeq (dVar 1)) (tgN 3) (tYs) (tV (tCmp .inn (dVar 2) (dVar 3))) [3] false) (dNil)))) (dVar 2) [2] false [some (.d (eB b)), some (.d (eSs (goodSets b))), none, none] st = .ok (.d (.lst ((neededOf b).map eM))) st :=
    ev_dLc (enc := eM) (E := fun m => [some (.d (eB b)), some (.d (eSs (goodSets b))), some (.d (eM m)), none]) (p := fun m => (goodSets b).all fun s => decide (m ∈ s)) b.moves eM (by simp only [ev_iSeq, ev_fld, ev_var, List.getElem?_cons_zero, optV_some, bind_ok, hfe, hsr]) hw (by have := ok.mvl; omega) (fun m _ => by simp only [evs]) (fun m hm s' w => by
      have inner : dLc (iSeq (dVar 1)) (tgN 3) (tYs) (tV (tCmp .inn (dVar 2) (dVar 3))) [3] false [some (.d (eB b)), some (.d (eSs (goodSets b))), some (.d (eM m)), none] s' = .ok (.d (.lst ((goodSets b).map fun s => .bl (decide (m ∈ s))))) s' := by
        rw [ev_dLc (enc := eS) (E := fun s => [some (.d (eB b)), some (.d (eSs (goodSets b))), some (.d (eM m)), some (.d (eS s))]) (p := fun _ => true) (goodSets b) (fun s => .bl (decide (m ∈ s))) (by simp only [evs, src_eSs]) w hgl (fun s _ => by simp only [evs]) (fun s _ s2 _ => by simp only [evs]) (fun s hs _ s2 _ => by simp only [evs, in_eS (ok.sok (goodSets_sub ok s hs).1.1) (hmv m hm)]), filter_tt]
      have e4 : ∀ st, bAll [.d (.lst ((goodSets b).map fun s => .bl (decide (m ∈ s))))] st = .ok (.d (.bl ((goodSets b).all fun s => decide (m ∈ s)))) st := fun st => ev_all st (fun s => decide (m ∈ s)) (goodSets b)
      simp only [evs, inner, e4]) (fun m _ _ s' _ => by simp only [evs])
  simp only [G_needed, dS_needed, evs, Nat.reduceSub, List.reduceReplicate, h1, h2, hix, lc, trunc_self hw]
end
end Pg
/-! LW_k12 -/
namespace Lw
open PySem PySem.Spec PyProof.Rows L2 Fb Pg Lb
structure Fs (K : PySem.W.Frag) (mg : Str → Option Value) : Prop where
  d_is_integer : ∃ fd, FunD K "is_integer" "is_integer" (defArgs s_is_integer) (defBody s_is_integer) (defScope s_is_integer) [] [] (He.fAd K ("is_integer", none)) fd
  m_is_integer : mg "is_integer" = some (.ref (He.fAd K ("is_integer", none)))
  k_is_integer : PySem.W.keepIn K (.ref (He.fAd K ("is_integer", none))) = true
  d_is_move : ∃ fd, FunD K "is_move" "is_move" (defArgs s_is_move) (defBody s_is_move) (defScope s_is_move) [] [] (He.fAd K ("is_move", none)) fd
  m_is_move : mg "is_move" = some (.ref (He.fAd K ("is_move", none)))
  k_is_move : PySem.W.keepIn K (.ref (He.fAd K ("is_move", none))) = true
  d_are_prices : ∃ fd, FunD K "are_prices" "are_prices" (defArgs s_are_prices) (defBody s_are_prices) (defScope s_are_prices) [] [] (He.fAd K ("are_prices", none)) fd
  m_are_prices : mg "are_prices" = some (.ref (He.fAd K ("are_prices", none)))
  k_are_prices : PySem.W.keepIn K (.ref (He.fAd K ("are_prices", none))) = true
  d_is_field_of : ∃ fd, FunD K "is_field_of" "is_field_of" (defArgs s_is_field_of) (defBody s_is_field_of) (defScope s_is_field_of) [] [] (He.fAd K ("is_field_of", none)) fd
  m_is_field_of : mg "is_field_of" = some (.ref (He.fAd K ("is_field_of", none)))
  k_is_field_of : PySem.W.keepIn K (.ref (He.fAd K ("is_field_of", none))) = true
  d_is_name : ∃ fd, FunD K "is_name" "is_name" (defArgs s_is_name) (defBody s_is_name) (defScope s_is_name) [] [] (He.fAd K ("is_name", none)) fd
  m_is_name : mg "is_name" = some (.ref (He.fAd K ("is_name", none)))
  k_is_name : PySem.W.keepIn K (.ref (He.fAd K ("is_name", none))) = true
  d_Boardu__initu_ : ∃ fd, FunD K "__init__" "Board.__init__" (defArgs s_Boardu__initu_) (defBody s_Boardu__initu_) (defScope s_Boardu__initu_) [] [] (He.fAd K ("Board", some "__init__")) fd
  d_Fieldu__initu_ : ∃ fd, FunD K "__init__" "Field.__init__" (defArgs s_Fieldu__initu_) (defBody s_Fieldu__initu_) (defScope s_Fieldu__initu_) [] [("goal", V.bl false)] (He.fAd K ("Field", some "__init__")) fd
  d__law_field : ∃ fd, FunD K "_law_field" "_law_field" (defArgs s__law_field) (defBody s__law_field) (defScope s__law_field) [] [] (He.fAd K ("_law_field", none)) fd
  m__law_field : mg "_law_field" = some (.ref (He.fAd K ("_law_field", none)))
  k__law_field : PySem.W.keepIn K (.ref (He.fAd K ("_law_field", none))) = true
  d__law_board : ∃ fd, FunD K "_law_board" "_law_board" (defArgs s__law_board) (defBody s__law_board) (defScope s__law_board) [] [] (He.fAd K ("_law_board", none)) fd
  m__law_board : mg "_law_board" = some (.ref (He.fAd K ("_law_board", none)))
  k__law_board : PySem.W.keepIn K (.ref (He.fAd K ("_law_board", none))) = true
  d__law_cell_at : ∃ fd, FunD K "_law_cell_at" "_law_cell_at" (defArgs s__law_cell_at) (defBody s__law_cell_at) (defScope s__law_cell_at) [] [] (He.fAd K ("_law_cell_at", none)) fd
  m__law_cell_at : mg "_law_cell_at" = some (.ref (He.fAd K ("_law_cell_at", none)))
  k__law_cell_at : PySem.W.keepIn K (.ref (He.fAd K ("_law_cell_at", none))) = true
  d__law_draw : ∃ fd, FunD K "_law_draw" "_law_draw" (defArgs s__law_draw) (defBody s__law_draw) (defScope s__law_draw) [] [] (He.fAd K ("_law_draw", none)) fd
  m__law_draw : mg "_law_draw" = some (.ref (He.fAd K ("_law_draw", none)))
  k__law_draw : PySem.W.keepIn K (.ref (He.fAd K ("_law_draw", none))) = true
  d__law_number : ∃ fd, FunD K "_law_number" "_law_number" (defArgs s__law_number) (defBody s__law_number) (defScope s__law_number) [] [] (He.fAd K ("_law_number", none)) fd
  m__law_number : mg "_law_number" = some (.ref (He.fAd K ("_law_number", none)))
  k__law_number : PySem.W.keepIn K (.ref (He.fAd K ("_law_number", none))) = true
  d__law_next : ∃ fd, FunD K "_law_next" "_law_next" (defArgs s__law_next) (defBody s__law_next) (defScope s__law_next) [] [] (He.fAd K ("_law_next", none)) fd
  m__law_next : mg "_law_next" = some (.ref (He.fAd K ("_law_next", none)))
  k__law_next : PySem.W.keepIn K (.ref (He.fAd K ("_law_next", none))) = true
  d__law_pick : ∃ fd, FunD K "_law_pick" "_law_pick" (defArgs s__law_pick) (defBody s__law_pick) (defScope s__law_pick) [] [] (He.fAd K ("_law_pick", none)) fd
  m__law_pick : mg "_law_pick" = some (.ref (He.fAd K ("_law_pick", none)))
  k__law_pick : PySem.W.keepIn K (.ref (He.fAd K ("_law_pick", none))) = true
  d__law_drawn : ∃ fd, FunD K "_law_drawn" "_law_drawn" (defArgs s__law_drawn) (defBody s__law_drawn) (defScope s__law_drawn) [] [] (He.fAd K ("_law_drawn", none)) fd
  m__law_drawn : mg "_law_drawn" = some (.ref (He.fAd K ("_law_drawn", none)))
  k__law_drawn : PySem.W.keepIn K (.ref (He.fAd K ("_law_drawn", none))) = true
  d__law_ways : ∃ fd, FunD K "_law_ways" "_law_ways" (defArgs s__law_ways) (defBody s__law_ways) (defScope s__law_ways) [] [] (He.fAd K ("_law_ways", none)) fd
  m__law_ways : mg "_law_ways" = some (.ref (He.fAd K ("_law_ways", none)))
  k__law_ways : PySem.W.keepIn K (.ref (He.fAd K ("_law_ways", none))) = true
  d__law_far : ∃ fd, FunD K "_law_far" "_law_far" (defArgs s__law_far) (defBody s__law_far) (defScope s__law_far) [] [] (He.fAd K ("_law_far", none)) fd
  m__law_far : mg "_law_far" = some (.ref (He.fAd K ("_law_far", none)))
  k__law_far : PySem.W.keepIn K (.ref (He.fAd K ("_law_far", none))) = true
  d_check_board : ∃ fd, FunD K "check_board" "check_board" (defArgs s_check_board) (defBody s_check_board) (defScope s_check_board) [] [] (He.fAd K ("check_board", none)) fd
  m_check_board : mg "check_board" = some (.ref (He.fAd K ("check_board", none)))
  k_check_board : PySem.W.keepIn K (.ref (He.fAd K ("check_board", none))) = true
  d_is_set : ∃ fd, FunD K "is_set" "is_set" (defArgs s_is_set) (defBody s_is_set) (defScope s_is_set) [] [] (He.fAd K ("is_set", none)) fd
  m_is_set : mg "is_set" = some (.ref (He.fAd K ("is_set", none)))
  k_is_set : PySem.W.keepIn K (.ref (He.fAd K ("is_set", none))) = true
  d_check_set : ∃ fd, FunD K "check_set" "check_set" (defArgs s_check_set) (defBody s_check_set) (defScope s_check_set) [] [] (He.fAd K ("check_set", none)) fd
  m_check_set : mg "check_set" = some (.ref (He.fAd K ("check_set", none)))
  k_check_set : PySem.W.keepIn K (.ref (He.fAd K ("check_set", none))) = true
  d_ways : ∃ fd, FunD K "ways" "ways" (defArgs s_ways) (defBody s_ways) (defScope s_ways) [] [] (He.fAd K ("ways", none)) fd
  m_ways : mg "ways" = some (.ref (He.fAd K ("ways", none)))
  k_ways : PySem.W.keepIn K (.ref (He.fAd K ("ways", none))) = true
  d_is_won_at_once : ∃ fd, FunD K "is_won_at_once" "is_won_at_once" (defArgs s_is_won_at_once) (defBody s_is_won_at_once) (defScope s_is_won_at_once) [] [] (He.fAd K ("is_won_at_once", none)) fd
  m_is_won_at_once : mg "is_won_at_once" = some (.ref (He.fAd K ("is_won_at_once", none)))
  k_is_won_at_once : PySem.W.keepIn K (.ref (He.fAd K ("is_won_at_once", none))) = true
  d_leads_on : ∃ fd, FunD K "leads_on" "leads_on" (defArgs s_leads_on) (defBody s_leads_on) (defScope s_leads_on) [] [] (He.fAd K ("leads_on", none)) fd
  m_leads_on : mg "leads_on" = some (.ref (He.fAd K ("leads_on", none)))
  k_leads_on : PySem.W.keepIn K (.ref (He.fAd K ("leads_on", none))) = true
  d_distances_of : ∃ fd, FunD K "distances_of" "distances_of" (defArgs s_distances_of) (defBody s_distances_of) (defScope s_distances_of) [] [] (He.fAd K ("distances_of", none)) fd
  m_distances_of : mg "distances_of" = some (.ref (He.fAd K ("distances_of", none)))
  k_distances_of : PySem.W.keepIn K (.ref (He.fAd K ("distances_of", none))) = true
  d_wins : ∃ fd, FunD K "wins" "wins" (defArgs s_wins) (defBody s_wins) (defScope s_wins) [] [] (He.fAd K ("wins", none)) fd
  m_wins : mg "wins" = some (.ref (He.fAd K ("wins", none)))
  k_wins : PySem.W.keepIn K (.ref (He.fAd K ("wins", none))) = true
  d_needless : ∃ fd, FunD K "needless" "needless" (defArgs s_needless) (defBody s_needless) (defScope s_needless) [] [] (He.fAd K ("needless", none)) fd
  m_needless : mg "needless" = some (.ref (He.fAd K ("needless", none)))
  k_needless : PySem.W.keepIn K (.ref (He.fAd K ("needless", none))) = true
  d__law_refused : ∃ fd, FunD K "_law_refused" "_law_refused" (defArgs s__law_refused) (defBody s__law_refused) (defScope s__law_refused) [] [] (He.fAd K ("_law_refused", none)) fd
  m__law_refused : mg "_law_refused" = some (.ref (He.fAd K ("_law_refused", none)))
  k__law_refused : PySem.W.keepIn K (.ref (He.fAd K ("_law_refused", none))) = true
  d__law_sets : ∃ fd, FunD K "_law_sets" "_law_sets" (defArgs s__law_sets) (defBody s__law_sets) (defScope s__law_sets) [] [] (He.fAd K ("_law_sets", none)) fd
  m__law_sets : mg "_law_sets" = some (.ref (He.fAd K ("_law_sets", none)))
  k__law_sets : PySem.W.keepIn K (.ref (He.fAd K ("_law_sets", none))) = true
  d_all_sets : ∃ fd, FunD K "all_sets" "all_sets" (defArgs s_all_sets) (defBody s_all_sets) (defScope s_all_sets) [] [] (He.fAd K ("all_sets", none)) fd
  m_all_sets : mg "all_sets" = some (.ref (He.fAd K ("all_sets", none)))
  k_all_sets : PySem.W.keepIn K (.ref (He.fAd K ("all_sets", none))) = true
  d_parted : ∃ fd, FunD K "parted" "parted" (defArgs s_parted) (defBody s_parted) (defScope s_parted) [] [] (He.fAd K ("parted", none)) fd
  m_parted : mg "parted" = some (.ref (He.fAd K ("parted", none)))
  k_parted : PySem.W.keepIn K (.ref (He.fAd K ("parted", none))) = true
  d_needed : ∃ fd, FunD K "needed" "needed" (defArgs s_needed) (defBody s_needed) (defScope s_needed) [] [] (He.fAd K ("needed", none)) fd
  m_needed : mg "needed" = some (.ref (He.fAd K ("needed", none)))
  k_needed : PySem.W.keepIn K (.ref (He.fAd K ("needed", none))) = true
  d__law_one_right : ∃ fd, FunD K "_law_one_right" "_law_one_right" (defArgs s__law_one_right) (defBody s__law_one_right) (defScope s__law_one_right) [] [] (He.fAd K ("_law_one_right", none)) fd
  m__law_one_right : mg "_law_one_right" = some (.ref (He.fAd K ("_law_one_right", none)))
  k__law_one_right : PySem.W.keepIn K (.ref (He.fAd K ("_law_one_right", none))) = true
  d_law : ∃ fd, FunD K "law" "law" (defArgs s_law) (defBody s_law) (defScope s_law) [] [] (He.fAd K ("law", none)) fd
  m_law : mg "law" = some (.ref (He.fAd K ("law", none)))
  k_law : PySem.W.keepIn K (.ref (He.fAd K ("law", none))) = true
  n_all : mg "all" = none
  n_any : mg "any" = none
  n_bool : mg "bool" = none
  n_dict : mg "dict" = none
  n_int : mg "int" = none
  n_isinstance : mg "isinstance" = none
  n_len : mg "len" = none
  n_list : mg "list" = none
  n_max : mg "max" = none
  n_min : mg "min" = none
  n_range : mg "range" = none
  n_str : mg "str" = none
  n_tuple : mg "tuple" = none
  c_LETTERS : ∃ t, mg "LETTERS" = some (.str "abcdefghijklmnopqrstuvwxyz" t)
  c_MAX_COST : ∃ t, mg "MAX_COST" = some (.int 9 t)
  c_MAX_FIELDS : ∃ t, mg "MAX_FIELDS" = some (.int 8 t)
  c_MAX_NAME : ∃ t, mg "MAX_NAME" = some (.int 8 t)
  c_MAX_PRICES : ∃ t, mg "MAX_PRICES" = some (.int 6 t)
  g_Field : mg "Field" = some (.ref (He.ga K "Field"))
  g_Board : mg "Board" = some (.ref (He.ga K "Board"))
  t_Field : (tb K).ct 0 = some (He.ga K "Field", (["side", "aims", "is_goal"] : List Str))
  mk_Field : Mk K (He.ga K "Field") (He.fAd K ("Field", some "__init__"))
  t_Board : (tb K).ct 1 = some (He.ga K "Board", (["lines", "begin", "fees"] : List Str))
  mk_Board : Mk K (He.ga K "Board") (He.fAd K ("Board", some "__init__"))
  g_NotWinning : mg "NotWinning" = some (.ref (He.ga K "NotWinning"))
  ex_NotWinning : PySem.W.excIn K (He.ga K "NotWinning") He.veBase "ValueError.__new__" = true ∧ PySem.W.keepIn K (.ref (He.ga K "NotWinning")) = true ∧ PySem.W.subIn K (.ref (He.ga K "NotWinning")) (.type "BaseException") = some true ∧ PySem.W.typeIn K (.ref (He.ga K "NotWinning")) = some (.type "type")
  xm_NotWinning : ∀ (i : Nat) (C : Addr) (ns : List Str) (b : Bool), (tb K).xt i = some (C, ns) → x_NotWinning i = some b → PySem.W.exmOne K (.ref C) (.ref (He.ga K "NotWinning")) = some b
  f_aims : Fld K (tb K) "aims" fd_aims
  f_begin : Fld K (tb K) "begin" fd_begin
  f_fees : Fld K (tb K) "fees" fd_fees
  f_is_goal : Fld K (tb K) "is_goal" fd_is_goal
  f_lines : Fld K (tb K) "lines" fd_lines
  f_side : Fld K (tb K) "side" fd_side
  q_Board : IsQ K (tb K) (.ref (He.ga K "Board")) q_Board
  q_Field : IsQ K (tb K) (.ref (He.ga K "Field")) q_Field
  q_bool : IsQ K (tb K) (.type "bool") q_bool
  q_dict : IsQ K (tb K) (.type "dict") q_dict
  q_int : IsQ K (tb K) (.type "int") q_int
  q_str : IsQ K (tb K) (.type "str") q_str
  q_tuple : IsQ K (tb K) (.type "tuple") q_tuple
variable {P : Program} {w : World} {K : PySem.W.Frag} {mg : Str → Option Value} {base : Heap}
abbrev N_is_integer : List Str := ["value", "low", "high"]
theorem nd_is_integer : (N_is_integer).Nodup := by decide +kernel
theorem sc_is_integer : FnScope N_is_integer (["value", "low", "high"]) (defScope s_is_integer) := ⟨rfl, rfl, rfl, by decide +kernel, rfl, by decide +kernel, by decide +kernel⟩
theorem body_is_integer (hy : Fs K mg) {f : Addr} {cdv : Value} {A : Around} {outer : List Env} {s : Shared} {H : Hp} {E : XK} (hr : Room 0 (A.deeper (envOfC "is_integer" (defScope s_is_integer) s.heap.objs.size f cdv))) :
    PSs (cxOf (L2.CX P w) P w K mg base N_is_integer "is_integer" (defScope s_is_integer) f cdv A outer s H E) (defBody s_is_integer) (tS K (tb K) (WK E) dS_is_integer) := by
  have px : ∀ σ, PassesAt (L2.CX P w) (cxOf (L2.CX P w) P w K mg base N_is_integer "is_integer" (defScope s_is_integer) f cdv A outer s H E) σ (WE (WK E) σ) := fun σ => passAt (takes_of rfl rfl rfl rfl) σ
  have po : PassesOwn (model P w) (cxOf (L2.CX P w) P w K mg base N_is_integer "is_integer" (defScope s_is_integer) f cdv A outer s H E).A (cxOf (L2.CX P w) P w K mg base N_is_integer "is_integer" (defScope s_is_integer) f cdv A outer s H E).env (cxOf (L2.CX P w) P w K mg base N_is_integer "is_integer" (defScope s_is_integer) f cdv A outer s H E).xe := passes_of rfl
  exact ss_one (s_ret (e_and (e_isi (.ty _) hy.q_int rfl hy.n_isinstance rfl (v_ 0) (pe_bltn rfl hy.n_int rfl rfl)) (e_and (e_not (e_isi (.ty _) hy.q_bool rfl hy.n_isinstance rfl (v_ 0) (pe_bltn rfl hy.n_bool rfl rfl))) (e_one (e_ch o_le o_le (v_ 1) (v_ 0) (v_ 2))))))
theorem ok_is_integer (hy : Fs K mg) : FnG P w K (tb K) mg base (L2.CX P w) 1 (He.fAd K ("is_integer", none)) [] G_is_integer := by
  obtain ⟨fd, F⟩ := hy.d_is_integer
  exact fn_G (dl := []) (dd := []) F sc_is_integer (F.bindsN fun _ _ _ _ _ _ us hl => match us, hl with | [_, _, _], _ => rfl) .nil (fun _ _ => rfl) fun cdv A outer s H E hr => body_is_integer hy hr
abbrev N_is_move : List Str := ["lines", "value", "name"]
theorem nd_is_move : (N_is_move).Nodup := by decide +kernel
theorem sc_is_move : FnScope N_is_move (["lines", "value"]) (defScope s_is_move) := ⟨rfl, rfl, rfl, by decide +kernel, rfl, by decide +kernel, by decide +kernel⟩
theorem body_is_move (hy : Fs K mg) {f : Addr} {cdv : Value} {A : Around} {outer : List Env} {s : Shared} {H : Hp} {E : XK} (hr : Room 0 (A.deeper (envOfC "is_move" (defScope s_is_move) s.heap.objs.size f cdv))) :
    PSs (cxOf (L2.CX P w) P w K mg base N_is_move "is_move" (defScope s_is_move) f cdv A outer s H E) (defBody s_is_move) (tS K (tb K) (WK E) dS_is_move) := by
  have px : ∀ σ, PassesAt (L2.CX P w) (cxOf (L2.CX P w) P w K mg base N_is_move "is_move" (defScope s_is_move) f cdv A outer s H E) σ (WE (WK E) σ) := fun σ => passAt (takes_of rfl rfl rfl rfl) σ
  have po : PassesOwn (model P w) (cxOf (L2.CX P w) P w K mg base N_is_move "is_move" (defScope s_is_move) f cdv A outer s H E).A (cxOf (L2.CX P w) P w K mg base N_is_move "is_move" (defScope s_is_move) f cdv A outer s H E).env (cxOf (L2.CX P w) P w K mg base N_is_move "is_move" (defScope s_is_move) f cdv A outer s H E).xe := passes_of rfl
  exact ss_cons (s_if (t_w (w_or (t_not (t_val (e_isi (.ty _) hy.q_tuple rfl hy.n_isinstance rfl (v_ 1) (pe_bltn rfl hy.n_tuple rfl rfl)))) (w_or (t_ne hr (e_len hr rfl hy.n_len (a_cons (v_ 1) (a_nil))) (e_int)) (w_or1 (t_not (t_val (e_all rfl rfl hy.n_all (a_cons (e_lc (own := [("name", 2)]) (is := [2]) rfl nd_is_move (i_seq rfl (v_ 1)) (blkOk_by (N := N_is_move) (sc := defScope s_is_move) (by decide +kernel)) (by decide) (fun _ _ _ _ _ => g_name nd_is_move rfl (by first | exact Or.inl rfl | exact Or.inr rfl)) (fun _ _ _ _ _ => ts_nil) (fun _ _ _ _ _ => e_isi (.ty _) hy.q_str rfl hy.n_isinstance rfl (v_ 2) (pe_bltn rfl hy.n_str rfl rfl))) (a_nil))))))))) (ss_one (s_ret (e_bl))) (ss_nil)) (ss_one (s_ret (e_and (e_in hr (e_ix (hu_of hr) (v_ 1) (e_int)) (v_ 0)) (e_one (e_in hr (e_ix (hu_of hr) (v_ 1) (e_int)) (e_fld hy.f_aims (e_ix (hu_of hr) (v_ 0) (e_ix (hu_of hr) (v_ 1) (e_int)))))))))
theorem ok_is_move (hy : Fs K mg) : FnG P w K (tb K) mg base (L2.CX P w) 1 (He.fAd K ("is_move", none)) [] G_is_move := by
  obtain ⟨fd, F⟩ := hy.d_is_move
  exact fn_G (dl := []) (dd := []) F sc_is_move (F.bindsN fun _ _ _ _ _ _ us hl => match us, hl with | [_, _], _ => rfl) .nil (fun _ _ => rfl) fun cdv A outer s H E hr => body_is_move hy hr
abbrev N_are_prices : List Str := ["lines", "value", "move", "cost"]
theorem nd_are_prices : (N_are_prices).Nodup := by decide +kernel
theorem sc_are_prices : FnScope N_are_prices (["lines", "value"]) (defScope s_are_prices) := ⟨rfl, rfl, rfl, by decide +kernel, rfl, by decide +kernel, by decide +kernel⟩
theorem body_are_prices (hy : Fs K mg) {f : Addr} {cdv : Value} {A : Around} {outer : List Env} {s : Shared} {H : Hp} {E : XK} (hr : Room 1 (A.deeper (envOfC "are_prices" (defScope s_are_prices) s.heap.objs.size f cdv))) :
    PSs (cxOf (L2.CX P w) P w K mg base N_are_prices "are_prices" (defScope s_are_prices) f cdv A outer s H E) (defBody s_are_prices) (tS K (tb K) (WK E) dS_are_prices) := by
  have px : ∀ σ, PassesAt (L2.CX P w) (cxOf (L2.CX P w) P w K mg base N_are_prices "are_prices" (defScope s_are_prices) f cdv A outer s H E) σ (WE (WK E) σ) := fun σ => passAt (takes_of rfl rfl rfl rfl) σ
  have po : PassesOwn (model P w) (cxOf (L2.CX P w) P w K mg base N_are_prices "are_prices" (defScope s_are_prices) f cdv A outer s H E).A (cxOf (L2.CX P w) P w K mg base N_are_prices "are_prices" (defScope s_are_prices) f cdv A outer s H E).env (cxOf (L2.CX P w) P w K mg base N_are_prices "are_prices" (defScope s_are_prices) f cdv A outer s H E).xe := passes_of rfl
  exact ss_cons (s_if (t_w (w_or (t_not (t_val (e_isi (.ty _) hy.q_dict rfl hy.n_isinstance rfl (v_ 1) (pe_bltn rfl hy.n_dict rfl rfl)))) (w_or1 (t_gt (e_len hr rfl hy.n_len (a_cons (v_ 1) (a_nil))) (e_gint rfl hy.c_MAX_PRICES))))) (ss_one (s_ret (e_bl))) (ss_nil)) (ss_one (s_ret (e_all rfl rfl hy.n_all (a_cons (e_lc (own := [("move", 2), ("cost", 3)]) (is := [2, 3]) rfl nd_are_prices (i_items (v_ 1)) (blkOk_by (N := N_are_prices) (sc := defScope s_are_prices) (by decide +kernel)) (by decide) (fun _ _ _ _ _ => g_tup rfl (g_cons nd_are_prices rfl (by first | exact Or.inl rfl | exact Or.inr rfl) (g_cons nd_are_prices rfl (by first | exact Or.inl rfl | exact Or.inr rfl) (g_nil))) rfl) (fun _ _ _ _ _ => ts_nil) (fun _ _ _ _ _ => e_and (e_call (FnG.mono (ok_is_move hy) (by decide)) hr rfl hy.m_is_move hy.k_is_move pf (a_cons (v_ 0) (a_cons (v_ 2) (a_nil)))) (e_one (e_call (FnG.mono (ok_is_integer hy) (by decide)) hr rfl hy.m_is_integer hy.k_is_integer pf (a_cons (v_ 3) (a_cons (e_int) (a_cons (e_gint rfl hy.c_MAX_COST) (a_nil)))))))) (a_nil)))))
theorem ok_are_prices (hy : Fs K mg) : FnG P w K (tb K) mg base (L2.CX P w) 2 (He.fAd K ("are_prices", none)) [] G_are_prices := by
  obtain ⟨fd, F⟩ := hy.d_are_prices
  exact fn_G (dl := []) (dd := []) F sc_are_prices (F.bindsN fun _ _ _ _ _ _ us hl => match us, hl with | [_, _], _ => rfl) .nil (fun _ _ => rfl) fun cdv A outer s H E hr => body_are_prices hy hr
abbrev N_is_field_of : List Str := ["names", "value", "name"]
theorem nd_is_field_of : (N_is_field_of).Nodup := by decide +kernel
theorem sc_is_field_of : FnScope N_is_field_of (["names", "value"]) (defScope s_is_field_of) := ⟨rfl, rfl, rfl, by decide +kernel, rfl, by decide +kernel, by decide +kernel⟩
theorem body_is_field_of (hy : Fs K mg) {f : Addr} {cdv : Value} {A : Around} {outer : List Env} {s : Shared} {H : Hp} {E : XK} (hr : Room 0 (A.deeper (envOfC "is_field_of" (defScope s_is_field_of) s.heap.objs.size f cdv))) :
    PSs (cxOf (L2.CX P w) P w K mg base N_is_field_of "is_field_of" (defScope s_is_field_of) f cdv A outer s H E) (defBody s_is_field_of) (tS K (tb K) (WK E) dS_is_field_of) := by
  have px : ∀ σ, PassesAt (L2.CX P w) (cxOf (L2.CX P w) P w K mg base N_is_field_of "is_field_of" (defScope s_is_field_of) f cdv A outer s H E) σ (WE (WK E) σ) := fun σ => passAt (takes_of rfl rfl rfl rfl) σ
  have po : PassesOwn (model P w) (cxOf (L2.CX P w) P w K mg base N_is_field_of "is_field_of" (defScope s_is_field_of) f cdv A outer s H E).A (cxOf (L2.CX P w) P w K mg base N_is_field_of "is_field_of" (defScope s_is_field_of) f cdv A outer s H E).env (cxOf (L2.CX P w) P w K mg base N_is_field_of "is_field_of" (defScope s_is_field_of) f cdv A outer s H E).xe := passes_of rfl
  exact ss_one (s_ret (e_and (e_isi (.own _) hy.q_Field rfl hy.n_isinstance rfl (v_ 1) (C8.pe_gc rfl ⟨_, hy.g_Field, rfl⟩)) (e_one (e_all rfl rfl hy.n_all (a_cons (e_lc (own := [("name", 2)]) (is := [2]) rfl nd_is_field_of (i_seq rfl (e_fld hy.f_aims (v_ 1))) (blkOk_by (N := N_is_field_of) (sc := defScope s_is_field_of) (by decide +kernel)) (by decide) (fun _ _ _ _ _ => g_name nd_is_field_of rfl (by first | exact Or.inl rfl | exact Or.inr rfl)) (fun _ _ _ _ _ => ts_nil) (fun _ _ _ _ _ => e_in hr (v_ 2) (v_ 0))) (a_nil))))))
theorem ok_is_field_of (hy : Fs K mg) : FnG P w K (tb K) mg base (L2.CX P w) 1 (He.fAd K ("is_field_of", none)) [] G_is_field_of := by
  obtain ⟨fd, F⟩ := hy.d_is_field_of
  exact fn_G (dl := []) (dd := []) F sc_is_field_of (F.bindsN fun _ _ _ _ _ _ us hl => match us, hl with | [_, _], _ => rfl) .nil (fun _ _ => rfl) fun cdv A outer s H E hr => body_is_field_of hy hr
abbrev N_is_name : List Str := ["value", "sign"]
theorem nd_is_name : (N_is_name).Nodup := by decide +kernel
theorem sc_is_name : FnScope N_is_name (["value"]) (defScope s_is_name) := ⟨rfl, rfl, rfl, by decide +kernel, rfl, by decide +kernel, by decide +kernel⟩
theorem body_is_name (hy : Fs K mg) {f : Addr} {cdv : Value} {A : Around} {outer : List Env} {s : Shared} {H : Hp} {E : XK} (hr : Room 0 (A.deeper (envOfC "is_name" (defScope s_is_name) s.heap.objs.size f cdv))) :
    PSs (cxOf (L2.CX P w) P w K mg base N_is_name "is_name" (defScope s_is_name) f cdv A outer s H E) (defBody s_is_name) (tS K (tb K) (WK E) dS_is_name) := by
  have px : ∀ σ, PassesAt (L2.CX P w) (cxOf (L2.CX P w) P w K mg base N_is_name "is_name" (defScope s_is_name) f cdv A outer s H E) σ (WE (WK E) σ) := fun σ => passAt (takes_of rfl rfl rfl rfl) σ
  have po : PassesOwn (model P w) (cxOf (L2.CX P w) P w K mg base N_is_name "is_name" (defScope s_is_name) f cdv A outer s H E).A (cxOf (L2.CX P w) P w K mg base N_is_name "is_name" (defScope s_is_name) f cdv A outer s H E).env (cxOf (L2.CX P w) P w K mg base N_is_name "is_name" (defScope s_is_name) f cdv A outer s H E).xe := passes_of rfl
  exact ss_one (s_ret (e_and (e_isi (.ty _) hy.q_str rfl hy.n_isinstance rfl (v_ 0) (pe_bltn rfl hy.n_str rfl rfl)) (e_and (e_ch o_le o_le (e_int) (e_len hr rfl hy.n_len (a_cons (v_ 0) (a_nil))) (e_gint rfl hy.c_MAX_NAME)) (e_one (e_all rfl rfl hy.n_all (a_cons (e_lc (own := [("sign", 1)]) (is := [1]) rfl nd_is_name (i_seq rfl (v_ 0)) (blkOk_by (N := N_is_name) (sc := defScope s_is_name) (by decide +kernel)) (by decide) (fun _ _ _ _ _ => g_name nd_is_name rfl (by first | exact Or.inl rfl | exact Or.inr rfl)) (fun _ _ _ _ _ => ts_nil) (fun _ _ _ _ _ => e_in hr (v_ 1) (e_gstr rfl hy.c_LETTERS))) (a_nil)))))))
theorem ok_is_name (hy : Fs K mg) : FnG P w K (tb K) mg base (L2.CX P w) 1 (He.fAd K ("is_name", none)) [] G_is_name := by
  obtain ⟨fd, F⟩ := hy.d_is_name
  exact fn_G (dl := []) (dd := []) F sc_is_name (F.bindsN fun _ _ _ _ _ _ us hl => match us, hl with | [_], _ => rfl) .nil (fun _ _ => rfl) fun cdv A outer s H E hr => body_is_name hy hr
abbrev N_Boardu__initu_ : List Str := ["self", "fields", "start", "prices", "name", "field", "move", "cost"]
theorem nd_Boardu__initu_ : (N_Boardu__initu_).Nodup := by decide +kernel
theorem sc_Boardu__initu_ : FnScope N_Boardu__initu_ (["self", "fields", "start", "prices"]) (defScope s_Boardu__initu_) := ⟨rfl, rfl, rfl, by decide +kernel, rfl, by decide +kernel, by decide +kernel⟩
theorem body_Boardu__initu_ (hy : Fs K mg) {f : Addr} {cdv : Value} {A : Around} {outer : List Env} {s : Shared} {H : Hp} {E : XK} (hr : Room 2 (A.deeper (envOfC "Board.__init__" (defScope s_Boardu__initu_) s.heap.objs.size f cdv))) :
    PSs (cxOf (L2.CX P w) P w K mg base N_Boardu__initu_ "Board.__init__" (defScope s_Boardu__initu_) f cdv A outer s H E) (defBody s_Boardu__initu_) (tS K (tb K) (WK E) dS_Boardu__initu_) := by
  have px : ∀ σ, PassesAt (L2.CX P w) (cxOf (L2.CX P w) P w K mg base N_Boardu__initu_ "Board.__init__" (defScope s_Boardu__initu_) f cdv A outer s H E) σ (WE (WK E) σ) := fun σ => passAt (takes_of rfl rfl rfl rfl) σ
  have po : PassesOwn (model P w) (cxOf (L2.CX P w) P w K mg base N_Boardu__initu_ "Board.__init__" (defScope s_Boardu__initu_) f cdv A outer s H E).A (cxOf (L2.CX P w) P w K mg base N_Boardu__initu_ "Board.__init__" (defScope s_Boardu__initu_) f cdv A outer s H E).env (cxOf (L2.CX P w) P w K mg base N_Boardu__initu_ "Board.__init__" (defScope s_Boardu__initu_) f cdv A outer s H E).xe := passes_of rfl
  exact ss_cons (s_if (t_w (w_or (t_not (t_val (e_isi (.ty _) hy.q_dict rfl hy.n_isinstance rfl (v_ 1) (pe_bltn rfl hy.n_dict rfl rfl)))) (w_or1 (t_not (t_ch o_le o_le (e_int) (e_len hr rfl hy.n_len (a_cons (v_ 1) (a_nil))) (e_gint rfl hy.c_MAX_FIELDS)))))) (ss_one (s_never)) (ss_nil)) (ss_cons (s_for (is := [4, 5]) po rfl (i_items (v_ 1)) (g_tup rfl (g_cons nd_Boardu__initu_ rfl (by first | exact Or.inl rfl | exact Or.inr rfl) (g_cons nd_Boardu__initu_ rfl (by first | exact Or.inl rfl | exact Or.inr rfl) (g_nil))) rfl) (ss_one (s_if (t_w (w_or (t_not (t_val (e_call (FnG.mono (ok_is_name hy) (by decide)) hr rfl hy.m_is_name hy.k_is_name px (a_cons (v_ 4) (a_nil))))) (w_or1 (t_not (t_val (e_call (FnG.mono (ok_is_field_of hy) (by decide)) hr rfl hy.m_is_field_of hy.k_is_field_of px (a_cons (v_ 1) (a_cons (v_ 5) (a_nil))))))))) (ss_one (s_never)) (ss_nil)))) (ss_cons (s_if (t_w (w_or (t_not (t_val (e_isi (.ty _) hy.q_str rfl hy.n_isinstance rfl (v_ 2) (pe_bltn rfl hy.n_str rfl rfl)))) (w_or1 (t_nin hr (v_ 2) (v_ 1))))) (ss_one (s_never)) (ss_nil)) (ss_cons (s_if (t_not (t_val (e_call (FnG.mono (ok_are_prices hy) (by decide)) hr rfl hy.m_are_prices hy.k_are_prices px (a_cons (v_ 1) (a_cons (v_ 3) (a_nil)))))) (ss_one (s_never)) (ss_nil)) (ss_cons (s_attr hy.f_lines (v_ 0) (e_dc (hu_of hr) rfl nd_Boardu__initu_ (own := [("name", 4), ("field", 5)]) (is := [4, 5]) (i_items (v_ 1)) (blkOk_by (N := N_Boardu__initu_) (sc := defScope s_Boardu__initu_) (by decide +kernel)) (by decide) (fun _ _ _ _ _ => g_tup rfl (g_cons nd_Boardu__initu_ rfl (by first | exact Or.inl rfl | exact Or.inr rfl) (g_cons nd_Boardu__initu_ rfl (by first | exact Or.inl rfl | exact Or.inr rfl) (g_nil))) rfl) (fun _ _ _ _ _ => ts_nil) (fun _ _ _ _ _ => v_ 4) (fun _ _ _ _ _ => v_ 5))) (ss_cons (s_attr hy.f_begin (v_ 0) (v_ 2)) (ss_one (s_attr hy.f_fees (v_ 0) (e_dc (hu_of hr) rfl nd_Boardu__initu_ (own := [("move", 6), ("cost", 7)]) (is := [6, 7]) (i_items (v_ 3)) (blkOk_by (N := N_Boardu__initu_) (sc := defScope s_Boardu__initu_) (by decide +kernel)) (by decide) (fun _ _ _ _ _ => g_tup rfl (g_cons nd_Boardu__initu_ rfl (by first | exact Or.inl rfl | exact Or.inr rfl) (g_cons nd_Boardu__initu_ rfl (by first | exact Or.inl rfl | exact Or.inr rfl) (g_nil))) rfl) (fun _ _ _ _ _ => ts_nil) (fun _ _ _ _ _ => v_ 6) (fun _ _ _ _ _ => v_ 7)))))))))
theorem ok_Boardu__initu_ (hy : Fs K mg) : FnG P w K (tb K) mg base (L2.CX P w) 3 (He.fAd K ("Board", some "__init__")) [] G_Boardu__initu_ := by
  obtain ⟨fd, F⟩ := hy.d_Boardu__initu_
  exact fn_G (dl := []) (dd := []) F sc_Boardu__initu_ (F.bindsN fun _ _ _ _ _ _ us hl => match us, hl with | [_, _, _, _], _ => rfl) .nil (fun _ _ => rfl) fun cdv A outer s H E hr => body_Boardu__initu_ hy hr
abbrev N_Fieldu__initu_ : List Str := ["self", "owner", "goal", "targets", "name"]
theorem nd_Fieldu__initu_ : (N_Fieldu__initu_).Nodup := by decide +kernel
theorem sc_Fieldu__initu_ : FnScope N_Fieldu__initu_ ((["self", "owner", "goal"] : List Str) ++ (["targets"] : List Str)) (defScope s_Fieldu__initu_) := ⟨rfl, rfl, rfl, by decide +kernel, rfl, by decide +kernel, by decide +kernel⟩
theorem body_Fieldu__initu_ (hy : Fs K mg) {f : Addr} {cdv : Value} {A : Around} {outer : List Env} {s : Shared} {H : Hp} {E : XK} (hr : Room 1 (A.deeper (envOfC "Field.__init__" (defScope s_Fieldu__initu_) s.heap.objs.size f cdv))) :
    PSs (cxOf (L2.CX P w) P w K mg base N_Fieldu__initu_ "Field.__init__" (defScope s_Fieldu__initu_) f cdv A outer s H E) (defBody s_Fieldu__initu_) (tS K (tb K) (WK E) dS_Fieldu__initu_) := by
  have px : ∀ σ, PassesAt (L2.CX P w) (cxOf (L2.CX P w) P w K mg base N_Fieldu__initu_ "Field.__init__" (defScope s_Fieldu__initu_) f cdv A outer s H E) σ (WE (WK E) σ) := fun σ => passAt (takes_of rfl rfl rfl rfl) σ
  have po : PassesOwn (model P w) (cxOf (L2.CX P w) P w K mg base N_Fieldu__initu_ "Field.__init__" (defScope s_Fieldu__initu_) f cdv A outer s H E).A (cxOf (L2.CX P w) P w K mg base N_Fieldu__initu_ "Field.__init__" (defScope s_Fieldu__initu_) f cdv A outer s H E).env (cxOf (L2.CX P w) P w K mg base N_Fieldu__initu_ "Field.__init__" (defScope s_Fieldu__initu_) f cdv A outer s H E).xe := passes_of rfl
  exact ss_cons (s_if (t_not (t_val (e_call (FnG.mono (ok_is_integer hy) (by decide)) hr rfl hy.m_is_integer hy.k_is_integer px (a_cons (v_ 1) (a_cons (e_int) (a_cons (e_int) (a_nil))))))) (ss_one (s_never)) (ss_nil)) (ss_cons (s_if (t_w (w_or (t_not (t_val (e_all rfl rfl hy.n_all (a_cons (e_lc (own := [("name", 4)]) (is := [4]) rfl nd_Fieldu__initu_ (i_seq rfl (v_ 3)) (blkOk_by (N := N_Fieldu__initu_) (sc := defScope s_Fieldu__initu_) (by decide +kernel)) (by decide) (fun _ _ _ _ _ => g_name nd_Fieldu__initu_ rfl (by first | exact Or.inl rfl | exact Or.inr rfl)) (fun _ _ _ _ _ => ts_nil) (fun _ _ _ _ _ => e_call (FnG.mono (ok_is_name hy) (by decide)) hr rfl hy.m_is_name hy.k_is_name pf (a_cons (v_ 4) (a_nil)))) (a_nil))))) (w_or1 (t_ne hr (e_len hr rfl hy.n_len (a_cons (e_dc (hu_of hr) rfl nd_Fieldu__initu_ (own := [("name", 4)]) (is := [4]) (i_seq rfl (v_ 3)) (blkOk_by (N := N_Fieldu__initu_) (sc := defScope s_Fieldu__initu_) (by decide +kernel)) (by decide) (fun _ _ _ _ _ => g_name nd_Fieldu__initu_ rfl (by first | exact Or.inl rfl | exact Or.inr rfl)) (fun _ _ _ _ _ => ts_nil) (fun _ _ _ _ _ => v_ 4) (fun _ _ _ _ _ => e_bl)) (a_nil))) (e_len hr rfl hy.n_len (a_cons (v_ 3) (a_nil))))))) (ss_one (s_never)) (ss_nil)) (ss_cons (s_if (t_not (t_val (e_isi (.ty _) hy.q_bool rfl hy.n_isinstance rfl (v_ 2) (pe_bltn rfl hy.n_bool rfl rfl)))) (ss_one (s_never)) (ss_nil)) (ss_cons (s_attr hy.f_side (v_ 0) (v_ 1)) (ss_cons (s_attr hy.f_aims (v_ 0) (v_ 3)) (ss_one (s_attr hy.f_is_goal (v_ 0) (v_ 2)))))))
theorem ok_Fieldu__initu_ (hy : Fs K mg) : FnG P w K (tb K) mg base (L2.CX P w) 2 (He.fAd K ("Field", some "__init__")) [] G_Fieldu__initu_ := by
  obtain ⟨fd, F⟩ := hy.d_Fieldu__initu_
  refine fn_starG (x := "__init__") (qual := "Field.__init__") (params := defArgs s_Fieldu__initu_) (body := defBody s_Fieldu__initu_) (scope := defScope s_Fieldu__initu_) (N := N_Fieldu__initu_) (fD := dS_Fieldu__initu_) (p1 := "self") (p2 := "owner") (pk := "goal") (pv := "targets") (b0 := false) [] (.inl rfl) F sc_Fieldu__initu_ ?_ ?_ fun cdv A outer s H E hr => body_Fieldu__initu_ hy hr
  · intro D doc pm an cdv ct a b rest
    cases rest <;> exact ⟨_, _, _, _, _, rfl, fun v => ⟨_, rfl, rfl⟩⟩
  · intro D doc pm an cdv ct a b v rest
    cases rest <;> rfl
theorem ok_Fieldu__initu__k (hy : Fs K mg) : FnG P w K (tb K) mg base (L2.CX P w) 2 (He.fAd K ("Field", some "__init__")) ["goal"] G_Fieldu__initu_ := by
  obtain ⟨fd, F⟩ := hy.d_Fieldu__initu_
  refine fn_starG (x := "__init__") (qual := "Field.__init__") (params := defArgs s_Fieldu__initu_) (body := defBody s_Fieldu__initu_) (scope := defScope s_Fieldu__initu_) (N := N_Fieldu__initu_) (fD := dS_Fieldu__initu_) (p1 := "self") (p2 := "owner") (pk := "goal") (pv := "targets") (b0 := false) ["goal"] (.inr rfl) F sc_Fieldu__initu_ ?_ ?_ fun cdv A outer s H E hr => body_Fieldu__initu_ hy hr
  · intro D doc pm an cdv ct a b rest
    cases rest <;> exact ⟨_, _, _, _, _, rfl, fun v => ⟨_, rfl, rfl⟩⟩
  · intro D doc pm an cdv ct a b v rest
    cases rest <;> rfl
abbrev N__law_field : List Str := ["_law_row", "_law_owner", "_law_aims", "_law_is_end"]
theorem nd__law_field : (N__law_field).Nodup := by decide +kernel
theorem sc__law_field : FnScope N__law_field (["_law_row"]) (defScope s__law_field) := ⟨rfl, rfl, rfl, by decide +kernel, rfl, by decide +kernel, by decide +kernel⟩
theorem body__law_field (hy : Fs K mg) {f : Addr} {cdv : Value} {A : Around} {outer : List Env} {s : Shared} {H : Hp} {E : XK} (hr : Room 3 (A.deeper (envOfC "_law_field" (defScope s__law_field) s.heap.objs.size f cdv))) :
    PSs (cxOf (L2.CX P w) P w K mg base N__law_field "_law_field" (defScope s__law_field) f cdv A outer s H E) (defBody s__law_field) (tS K (tb K) (WK E) dS__law_field) := by
  have px : ∀ σ, PassesAt (L2.CX P w) (cxOf (L2.CX P w) P w K mg base N__law_field "_law_field" (defScope s__law_field) f cdv A outer s H E) σ (WE (WK E) σ) := fun σ => passAt (takes_of rfl rfl rfl rfl) σ
  have po : PassesOwn (model P w) (cxOf (L2.CX P w) P w K mg base N__law_field "_law_field" (defScope s__law_field) f cdv A outer s H E).A (cxOf (L2.CX P w) P w K mg base N__law_field "_law_field" (defScope s__law_field) f cdv A outer s H E).env (cxOf (L2.CX P w) P w K mg base N__law_field "_law_field" (defScope s__law_field) f cdv A outer s H E).xe := passes_of rfl
  exact ss_cons (s_unp (v_ 0) (g_tup rfl (g_cons nd__law_field rfl (by first | exact Or.inl rfl | exact Or.inr rfl) (g_cons nd__law_field rfl (by first | exact Or.inl rfl | exact Or.inr rfl) (g_cons nd__law_field rfl (by first | exact Or.inl rfl | exact Or.inr rfl) (g_nil)))) rfl)) (ss_cons (s_if (t_eq hr (e_len hr rfl hy.n_len (a_cons (v_ 2) (a_nil))) (e_int)) (ss_one (s_ret (e_makeK hy.t_Field (by decide) rfl hy.mk_Field (FnG.mono (ok_Fieldu__initu__k hy) (by decide)) hr rfl hy.g_Field px (a_cons (v_ 1) (a_nil)) (k_cons (v_ 3) (k_nil)) rfl (hdl := fun _ _ _ _ h => k1_len h)))) (ss_nil)) (ss_cons (s_if (t_eq hr (e_len hr rfl hy.n_len (a_cons (v_ 2) (a_nil))) (e_int)) (ss_one (s_ret (e_makeK hy.t_Field (by decide) rfl hy.mk_Field (FnG.mono (ok_Fieldu__initu__k hy) (by decide)) hr rfl hy.g_Field px (a_cons (v_ 1) (a_cons (e_ix (hu_of hr) (v_ 2) (e_int)) (a_nil))) (k_cons (v_ 3) (k_nil)) rfl (hdl := fun _ _ _ _ h => k1_len h)))) (ss_nil)) (ss_cons (s_if (t_eq hr (e_len hr rfl hy.n_len (a_cons (v_ 2) (a_nil))) (e_int)) (ss_one (s_ret (e_makeK hy.t_Field (by decide) rfl hy.mk_Field (FnG.mono (ok_Fieldu__initu__k hy) (by decide)) hr rfl hy.g_Field px (a_cons (v_ 1) (a_cons (e_ix (hu_of hr) (v_ 2) (e_int)) (a_cons (e_ix (hu_of hr) (v_ 2) (e_int)) (a_nil)))) (k_cons (v_ 3) (k_nil)) rfl (hdl := fun _ _ _ _ h => k1_len h)))) (ss_nil)) (ss_one (s_ret (e_makeK hy.t_Field (by decide) rfl hy.mk_Field (FnG.mono (ok_Fieldu__initu__k hy) (by decide)) hr rfl hy.g_Field px (a_cons (v_ 1) (a_cons (e_ix (hu_of hr) (v_ 2) (e_int)) (a_cons (e_ix (hu_of hr) (v_ 2) (e_int)) (a_cons (e_ix (hu_of hr) (v_ 2) (e_int)) (a_nil))))) (k_cons (v_ 3) (k_nil)) rfl (hdl := fun _ _ _ _ h => k1_len h)))))))
theorem ok__law_field (hy : Fs K mg) : FnG P w K (tb K) mg base (L2.CX P w) 4 (He.fAd K ("_law_field", none)) [] G__law_field := by
  obtain ⟨fd, F⟩ := hy.d__law_field
  exact fn_G (dl := []) (dd := []) F sc__law_field (F.bindsN fun _ _ _ _ _ _ us hl => match us, hl with | [_], _ => rfl) .nil (fun _ _ => rfl) fun cdv A outer s H E hr => body__law_field hy hr
abbrev N__law_board : List Str := ["_law_drawn_here", "_law_rows", "_law_name"]
theorem nd__law_board : (N__law_board).Nodup := by decide +kernel
theorem sc__law_board : FnScope N__law_board (["_law_drawn_here"]) (defScope s__law_board) := ⟨rfl, rfl, rfl, by decide +kernel, rfl, by decide +kernel, by decide +kernel⟩
theorem body__law_board (hy : Fs K mg) {f : Addr} {cdv : Value} {A : Around} {outer : List Env} {s : Shared} {H : Hp} {E : XK} (hr : Room 4 (A.deeper (envOfC "_law_board" (defScope s__law_board) s.heap.objs.size f cdv))) :
    PSs (cxOf (L2.CX P w) P w K mg base N__law_board "_law_board" (defScope s__law_board) f cdv A outer s H E) (defBody s__law_board) (tS K (tb K) (WK E) dS__law_board) := by
  have px : ∀ σ, PassesAt (L2.CX P w) (cxOf (L2.CX P w) P w K mg base N__law_board "_law_board" (defScope s__law_board) f cdv A outer s H E) σ (WE (WK E) σ) := fun σ => passAt (takes_of rfl rfl rfl rfl) σ
  have po : PassesOwn (model P w) (cxOf (L2.CX P w) P w K mg base N__law_board "_law_board" (defScope s__law_board) f cdv A outer s H E).A (cxOf (L2.CX P w) P w K mg base N__law_board "_law_board" (defScope s__law_board) f cdv A outer s H E).env (cxOf (L2.CX P w) P w K mg base N__law_board "_law_board" (defScope s__law_board) f cdv A outer s H E).xe := passes_of rfl
  exact ss_cons (s_set (i := 1) nd__law_board rfl (by first | exact Or.inl rfl | exact Or.inr rfl) (e_dict0 false)) (ss_cons (s_for (is := [2]) po rfl (i_seq rfl (e_ix (hu_of hr) (v_ 0) (e_int))) (g_name nd__law_board rfl (by first | exact Or.inl rfl | exact Or.inr rfl)) (ss_one (s_put (hu_of hr) (v_ 1) (v_ 2) (e_call (FnG.mono (ok__law_field hy) (by decide)) hr rfl hy.m__law_field hy.k__law_field px (a_cons (e_ix (hu_of hr) (e_ix (hu_of hr) (v_ 0) (e_int)) (v_ 2)) (a_nil)))))) (ss_frz 1 (ss_one (s_ret (e_make hy.t_Board (by decide) rfl hy.mk_Board (FnG.mono (ok_Boardu__initu_ hy) (by decide)) hr rfl hy.g_Board px (a_cons (v_ 1) (a_cons (e_ix (hu_of hr) (v_ 0) (e_int)) (a_cons (e_ix (hu_of hr) (v_ 0) (e_int)) (a_nil)))))))))
theorem ok__law_board (hy : Fs K mg) : FnG P w K (tb K) mg base (L2.CX P w) 5 (He.fAd K ("_law_board", none)) [] G__law_board := by
  obtain ⟨fd, F⟩ := hy.d__law_board
  exact fn_G (dl := []) (dd := []) F sc__law_board (F.bindsN fun _ _ _ _ _ _ us hl => match us, hl with | [_], _ => rfl) .nil (fun _ _ => rfl) fun cdv A outer s H E hr => body__law_board hy hr
abbrev N__law_cell_at : List Str := ["_law_script", "_law_k"]
theorem nd__law_cell_at : (N__law_cell_at).Nodup := by decide +kernel
theorem sc__law_cell_at : FnScope N__law_cell_at (["_law_script", "_law_k"]) (defScope s__law_cell_at) := ⟨rfl, rfl, rfl, by decide +kernel, rfl, by decide +kernel, by decide +kernel⟩
theorem body__law_cell_at (hy : Fs K mg) {f : Addr} {cdv : Value} {A : Around} {outer : List Env} {s : Shared} {H : Hp} {E : XK} (hr : Room 0 (A.deeper (envOfC "_law_cell_at" (defScope s__law_cell_at) s.heap.objs.size f cdv))) :
    PSs (cxOf (L2.CX P w) P w K mg base N__law_cell_at "_law_cell_at" (defScope s__law_cell_at) f cdv A outer s H E) (defBody s__law_cell_at) (tS K (tb K) (WK E) dS__law_cell_at) := by
  have px : ∀ σ, PassesAt (L2.CX P w) (cxOf (L2.CX P w) P w K mg base N__law_cell_at "_law_cell_at" (defScope s__law_cell_at) f cdv A outer s H E) σ (WE (WK E) σ) := fun σ => passAt (takes_of rfl rfl rfl rfl) σ
  have po : PassesOwn (model P w) (cxOf (L2.CX P w) P w K mg base N__law_cell_at "_law_cell_at" (defScope s__law_cell_at) f cdv A outer s H E).A (cxOf (L2.CX P w) P w K mg base N__law_cell_at "_law_cell_at" (defScope s__law_cell_at) f cdv A outer s H E).env (cxOf (L2.CX P w) P w K mg base N__law_cell_at "_law_cell_at" (defScope s__law_cell_at) f cdv A outer s H E).xe := passes_of rfl
  exact ss_cons (s_if (t_lt (v_ 1) (e_len hr rfl hy.n_len (a_cons (v_ 0) (a_nil)))) (ss_one (s_ret (e_ix (hu_of hr) (v_ 0) (v_ 1)))) (ss_nil)) (ss_one (s_ret (e_int)))
theorem ok__law_cell_at (hy : Fs K mg) : FnG P w K (tb K) mg base (L2.CX P w) 1 (He.fAd K ("_law_cell_at", none)) [] G__law_cell_at := by
  obtain ⟨fd, F⟩ := hy.d__law_cell_at
  exact fn_G (dl := []) (dd := []) F sc__law_cell_at (F.bindsN fun _ _ _ _ _ _ us hl => match us, hl with | [_, _], _ => rfl) .nil (fun _ _ => rfl) fun cdv A outer s H E hr => body__law_cell_at hy hr
abbrev N__law_draw : List Str := ["_law_cell", "_law_k", "_law_below", "_law_primes"]
theorem nd__law_draw : (N__law_draw).Nodup := by decide +kernel
theorem sc__law_draw : FnScope N__law_draw (["_law_cell", "_law_k", "_law_below"]) (defScope s__law_draw) := ⟨rfl, rfl, rfl, by decide +kernel, rfl, by decide +kernel, by decide +kernel⟩
theorem body__law_draw (hy : Fs K mg) {f : Addr} {cdv : Value} {A : Around} {outer : List Env} {s : Shared} {H : Hp} {E : XK} (hr : Room 0 (A.deeper (envOfC "_law_draw" (defScope s__law_draw) s.heap.objs.size f cdv))) :
    PSs (cxOf (L2.CX P w) P w K mg base N__law_draw "_law_draw" (defScope s__law_draw) f cdv A outer s H E) (defBody s__law_draw) (tS K (tb K) (WK E) dS__law_draw) := by
  have px : ∀ σ, PassesAt (L2.CX P w) (cxOf (L2.CX P w) P w K mg base N__law_draw "_law_draw" (defScope s__law_draw) f cdv A outer s H E) σ (WE (WK E) σ) := fun σ => passAt (takes_of rfl rfl rfl rfl) σ
  have po : PassesOwn (model P w) (cxOf (L2.CX P w) P w K mg base N__law_draw "_law_draw" (defScope s__law_draw) f cdv A outer s H E).A (cxOf (L2.CX P w) P w K mg base N__law_draw "_law_draw" (defScope s__law_draw) f cdv A outer s H E).env (cxOf (L2.CX P w) P w K mg base N__law_draw "_law_draw" (defScope s__law_draw) f cdv A outer s H E).xe := passes_of rfl
  exact ss_cons (s_set (i := 3) nd__law_draw rfl (by first | exact Or.inl rfl | exact Or.inr rfl) (e_tup (a_cons (e_int) (a_cons (e_int) (a_cons (e_int) (a_cons (e_int) (a_cons (e_int) (a_cons (e_int) (a_cons (e_int) (a_cons (e_int) (a_cons (e_int) (a_cons (e_int) (a_cons (e_int) (a_cons (e_int) (a_cons (e_int) (a_cons (e_int) (a_cons (e_int) (a_cons (e_int) (a_nil))))))))))))))))))) (ss_one (s_ret (e_mod (e_mod (e_add (e_mul (v_ 0) (e_int)) (e_mul (v_ 1) (e_int))) (e_ix (hu_of hr) (v_ 3) (e_mod (v_ 1) (e_int)))) (v_ 2))))
theorem ok__law_draw (hy : Fs K mg) : FnG P w K (tb K) mg base (L2.CX P w) 1 (He.fAd K ("_law_draw", none)) [] G__law_draw := by
  obtain ⟨fd, F⟩ := hy.d__law_draw
  exact fn_G (dl := []) (dd := []) F sc__law_draw (F.bindsN fun _ _ _ _ _ _ us hl => match us, hl with | [_, _, _], _ => rfl) .nil (fun _ _ => rfl) fun cdv A outer s H E hr => body__law_draw hy hr
abbrev N__law_number : List Str := ["_law_cell", "_law_k", "_law_below", "_law_power", "_law_times", "_law_remains", "_law_small"]
theorem nd__law_number : (N__law_number).Nodup := by decide +kernel
theorem sc__law_number : FnScope N__law_number (["_law_cell", "_law_k", "_law_below"]) (defScope s__law_number) := ⟨rfl, rfl, rfl, by decide +kernel, rfl, by decide +kernel, by decide +kernel⟩
theorem body__law_number (hy : Fs K mg) {f : Addr} {cdv : Value} {A : Around} {outer : List Env} {s : Shared} {H : Hp} {E : XK} (hr : Room 1 (A.deeper (envOfC "_law_number" (defScope s__law_number) s.heap.objs.size f cdv))) :
    PSs (cxOf (L2.CX P w) P w K mg base N__law_number "_law_number" (defScope s__law_number) f cdv A outer s H E) (defBody s__law_number) (tS K (tb K) (WK E) dS__law_number) := by
  have px : ∀ σ, PassesAt (L2.CX P w) (cxOf (L2.CX P w) P w K mg base N__law_number "_law_number" (defScope s__law_number) f cdv A outer s H E) σ (WE (WK E) σ) := fun σ => passAt (takes_of rfl rfl rfl rfl) σ
  have po : PassesOwn (model P w) (cxOf (L2.CX P w) P w K mg base N__law_number "_law_number" (defScope s__law_number) f cdv A outer s H E).A (cxOf (L2.CX P w) P w K mg base N__law_number "_law_number" (defScope s__law_number) f cdv A outer s H E).env (cxOf (L2.CX P w) P w K mg base N__law_number "_law_number" (defScope s__law_number) f cdv A outer s H E).xe := passes_of rfl
  exact ss_cons (s_set (i := 3) nd__law_number rfl (by first | exact Or.inl rfl | exact Or.inr rfl) (e_int)) (ss_cons (s_for (is := [4]) po rfl (i_range1 (by rfl) hy.n_range (a_cons (e_mod (v_ 1) (e_int)) (a_nil))) (g_name nd__law_number rfl (by first | exact Or.inl rfl | exact Or.inr rfl)) (ss_one (s_set (i := 3) nd__law_number rfl (by first | exact Or.inl rfl | exact Or.inr rfl) (e_mul (v_ 3) (e_int))))) (ss_cons (s_set (i := 5) nd__law_number rfl (by first | exact Or.inl rfl | exact Or.inr rfl) (e_fdiv (e_sub (v_ 0) (e_pow ⟨by decide, by decide, by decide⟩)) (v_ 3))) (ss_cons (s_if (t_gt (v_ 5) (e_int)) (ss_one (s_ret (e_mod (e_mod (v_ 5) (e_int)) (v_ 2)))) (ss_nil)) (ss_cons (s_set (i := 6) nd__law_number rfl (by first | exact Or.inl rfl | exact Or.inr rfl) (e_mod (v_ 0) (e_int))) (ss_one (s_ret (e_mod (e_call (FnG.mono (ok__law_draw hy) (by decide)) hr rfl hy.m__law_draw hy.k__law_draw px (a_cons (e_mul (e_add (v_ 6) (e_mul (e_int) (v_ 1))) (e_add (e_add (v_ 6) (e_mul (e_int) (v_ 1))) (e_int))) (a_cons (e_add (e_mod (v_ 1) (e_int)) (e_int)) (a_cons (e_int) (a_nil))))) (v_ 2))))))))
theorem ok__law_number (hy : Fs K mg) : FnG P w K (tb K) mg base (L2.CX P w) 2 (He.fAd K ("_law_number", none)) [] G__law_number := by
  obtain ⟨fd, F⟩ := hy.d__law_number
  exact fn_G (dl := []) (dd := []) F sc__law_number (F.bindsN fun _ _ _ _ _ _ us hl => match us, hl with | [_, _, _], _ => rfl) .nil (fun _ _ => rfl) fun cdv A outer s H E hr => body__law_number hy hr
abbrev N__law_next : List Str := ["_law_state", "_law_below", "_law_at", "_law_cell"]
theorem nd__law_next : (N__law_next).Nodup := by decide +kernel
theorem sc__law_next : FnScope N__law_next (["_law_state", "_law_below"]) (defScope s__law_next) := ⟨rfl, rfl, rfl, by decide +kernel, rfl, by decide +kernel, by decide +kernel⟩
theorem body__law_next (hy : Fs K mg) {f : Addr} {cdv : Value} {A : Around} {outer : List Env} {s : Shared} {H : Hp} {E : XK} (hr : Room 2 (A.deeper (envOfC "_law_next" (defScope s__law_next) s.heap.objs.size f cdv))) :
    PSs (cxOf (L2.CX P w) P w K mg base N__law_next "_law_next" (defScope s__law_next) f cdv A outer s H E) (defBody s__law_next) (tS K (tb K) (WK E) dS__law_next) := by
  have px : ∀ σ, PassesAt (L2.CX P w) (cxOf (L2.CX P w) P w K mg base N__law_next "_law_next" (defScope s__law_next) f cdv A outer s H E) σ (WE (WK E) σ) := fun σ => passAt (takes_of rfl rfl rfl rfl) σ
  have po : PassesOwn (model P w) (cxOf (L2.CX P w) P w K mg base N__law_next "_law_next" (defScope s__law_next) f cdv A outer s H E).A (cxOf (L2.CX P w) P w K mg base N__law_next "_law_next" (defScope s__law_next) f cdv A outer s H E).env (cxOf (L2.CX P w) P w K mg base N__law_next "_law_next" (defScope s__law_next) f cdv A outer s H E).xe := passes_of rfl
  exact ss_cons (s_lput (v_ 0) (e_int) (e_add (e_ix (hu_of hr) (v_ 0) (e_int)) (e_int))) (ss_cons (s_set (i := 2) nd__law_next rfl (by first | exact Or.inl rfl | exact Or.inr rfl) (e_fdiv (e_ix (hu_of hr) (v_ 0) (e_int)) (e_int))) (ss_cons (s_set (i := 3) nd__law_next rfl (by first | exact Or.inl rfl | exact Or.inr rfl) (e_add (e_call (FnG.mono (ok__law_cell_at hy) (by decide)) hr rfl hy.m__law_cell_at hy.k__law_cell_at px (a_cons (e_ix (hu_of hr) (v_ 0) (e_int)) (a_cons (e_add (e_ix (hu_of hr) (v_ 0) (e_int)) (v_ 2)) (a_nil)))) (e_mul (e_int) (v_ 2)))) (ss_one (s_ret (e_call (FnG.mono (ok__law_number hy) (by decide)) hr rfl hy.m__law_number hy.k__law_number px (a_cons (v_ 3) (a_cons (e_add (e_mod (e_ix (hu_of hr) (v_ 0) (e_int)) (e_int)) (e_int)) (a_cons (v_ 1) (a_nil)))))))))
theorem ok__law_next (hy : Fs K mg) : FnG P w K (tb K) mg base (L2.CX P w) 3 (He.fAd K ("_law_next", none)) [] G__law_next := by
  obtain ⟨fd, F⟩ := hy.d__law_next
  exact fn_G (dl := []) (dd := []) F sc__law_next (F.bindsN fun _ _ _ _ _ _ us hl => match us, hl with | [_, _], _ => rfl) .nil (fun _ _ => rfl) fun cdv A outer s H E hr => body__law_next hy hr
abbrev N__law_pick : List Str := ["_law_state", "_law_things"]
theorem nd__law_pick : (N__law_pick).Nodup := by decide +kernel
theorem sc__law_pick : FnScope N__law_pick (["_law_state", "_law_things"]) (defScope s__law_pick) := ⟨rfl, rfl, rfl, by decide +kernel, rfl, by decide +kernel, by decide +kernel⟩
theorem body__law_pick (hy : Fs K mg) {f : Addr} {cdv : Value} {A : Around} {outer : List Env} {s : Shared} {H : Hp} {E : XK} (hr : Room 3 (A.deeper (envOfC "_law_pick" (defScope s__law_pick) s.heap.objs.size f cdv))) :
    PSs (cxOf (L2.CX P w) P w K mg base N__law_pick "_law_pick" (defScope s__law_pick) f cdv A outer s H E) (defBody s__law_pick) (tS K (tb K) (WK E) dS__law_pick) := by
  have px : ∀ σ, PassesAt (L2.CX P w) (cxOf (L2.CX P w) P w K mg base N__law_pick "_law_pick" (defScope s__law_pick) f cdv A outer s H E) σ (WE (WK E) σ) := fun σ => passAt (takes_of rfl rfl rfl rfl) σ
  have po : PassesOwn (model P w) (cxOf (L2.CX P w) P w K mg base N__law_pick "_law_pick" (defScope s__law_pick) f cdv A outer s H E).A (cxOf (L2.CX P w) P w K mg base N__law_pick "_law_pick" (defScope s__law_pick) f cdv A outer s H E).env (cxOf (L2.CX P w) P w K mg base N__law_pick "_law_pick" (defScope s__law_pick) f cdv A outer s H E).xe := passes_of rfl
  exact ss_one (s_ret (e_ix (hu_of hr) (v_ 1) (e_call (FnG.mono (ok__law_next hy) (by decide)) hr rfl hy.m__law_next hy.k__law_next px (a_cons (v_ 0) (a_cons (e_len hr rfl hy.n_len (a_cons (v_ 1) (a_nil))) (a_nil))))))
theorem ok__law_pick (hy : Fs K mg) : FnG P w K (tb K) mg base (L2.CX P w) 4 (He.fAd K ("_law_pick", none)) [] G__law_pick := by
  obtain ⟨fd, F⟩ := hy.d__law_pick
  exact fn_G (dl := []) (dd := []) F sc__law_pick (F.bindsN fun _ _ _ _ _ _ us hl => match us, hl with | [_, _], _ => rfl) .nil (fun _ _ => rfl) fun cdv A outer s H E hr => body__law_pick hy hr
abbrev N__law_drawn : List Str := ["_law_state", "_law_most", "_law_names", "_law_lines", "_law_every", "_law_name", "_law_fees", "_law_turn", "_law_aims", "_law_one"]
theorem nd__law_drawn : (N__law_drawn).Nodup := by decide +kernel
theorem sc__law_drawn : FnScope N__law_drawn (["_law_state", "_law_most"]) (defScope s__law_drawn) := ⟨rfl, rfl, rfl, by decide +kernel, rfl, by decide +kernel, by decide +kernel⟩
theorem body__law_drawn (hy : Fs K mg) {f : Addr} {cdv : Value} {A : Around} {outer : List Env} {s : Shared} {H : Hp} {E : XK} (hr : Room 4 (A.deeper (envOfC "_law_drawn" (defScope s__law_drawn) s.heap.objs.size f cdv))) :
    PSs (cxOf (L2.CX P w) P w K mg base N__law_drawn "_law_drawn" (defScope s__law_drawn) f cdv A outer s H E) (defBody s__law_drawn) (tS K (tb K) (WK E) dS__law_drawn) := by
  have px : ∀ σ, PassesAt (L2.CX P w) (cxOf (L2.CX P w) P w K mg base N__law_drawn "_law_drawn" (defScope s__law_drawn) f cdv A outer s H E) σ (WE (WK E) σ) := fun σ => passAt (takes_of rfl rfl rfl rfl) σ
  have po : PassesOwn (model P w) (cxOf (L2.CX P w) P w K mg base N__law_drawn "_law_drawn" (defScope s__law_drawn) f cdv A outer s H E).A (cxOf (L2.CX P w) P w K mg base N__law_drawn "_law_drawn" (defScope s__law_drawn) f cdv A outer s H E).env (cxOf (L2.CX P w) P w K mg base N__law_drawn "_law_drawn" (defScope s__law_drawn) f cdv A outer s H E).xe := passes_of rfl
  exact ss_cons (s_set (i := 2) nd__law_drawn rfl (by first | exact Or.inl rfl | exact Or.inr rfl) (e_sl (e_lst (a_cons (e_str) (a_cons (e_str) (a_cons (e_str) (a_cons (e_str) (a_cons (e_str) (a_cons (e_str) (a_cons (e_str) (a_nil))))))))) (o_none) (o_some (e_add (e_int) (e_call (FnG.mono (ok__law_next hy) (by decide)) hr rfl hy.m__law_next hy.k__law_next px (a_cons (v_ 0) (a_cons (e_int) (a_nil)))))))) (ss_cons (s_par2 (i := 3) (j := 4) rfl nd__law_drawn rfl rfl (by decide) rfl rfl (a_cons (e_dict0 false) (a_cons (e_lst (a_nil)) (a_nil))) (by with_unfolding_all rfl)) (ss_cons (s_for (is := [5]) po rfl (i_seq rfl (v_ 2)) (g_name nd__law_drawn rfl (by first | exact Or.inl rfl | exact Or.inr rfl)) (ss_cons (s_setLc (i := 8) (own := [("_law_one", 9)]) (is := [9]) rfl nd__law_drawn rfl rfl (sw_true rfl rfl rfl (by decide +kernel)) (i_seq rfl (v_ 2)) (blkOk_by (N := N__law_drawn) (sc := defScope s__law_drawn) (by decide +kernel)) (by decide) (fun _ _ _ _ _ => g_name nd__law_drawn rfl (by first | exact Or.inl rfl | exact Or.inr rfl)) (fun _ _ _ _ _ => ts_one (t_eq hr (e_call (FnG.mono (ok__law_next hy) (by decide)) hr rfl hy.m__law_next hy.k__law_next pf (a_cons (v_ 0) (a_cons (e_int) (a_nil)))) (e_int))) (fun _ _ _ _ _ => v_ 9)) (ss_cons (s_if (t_w (w_and (t_eq hr (v_ 8) (e_lst (a_nil))) (w_and1 (t_gt (e_call (FnG.mono (ok__law_next hy) (by decide)) hr rfl hy.m__law_next hy.k__law_next px (a_cons (v_ 0) (a_cons (e_int) (a_nil)))) (e_int))))) (ss_one (s_set (i := 8) nd__law_drawn rfl (by first | exact Or.inl rfl | exact Or.inr rfl) (e_lst (a_cons (e_call (FnG.mono (ok__law_pick hy) (by decide)) hr rfl hy.m__law_pick hy.k__law_pick px (a_cons (v_ 0) (a_cons (v_ 2) (a_nil)))) (a_nil))))) (ss_nil)) (ss_cons (s_set (i := 8) nd__law_drawn rfl (by first | exact Or.inl rfl | exact Or.inr rfl) (e_if (t_gt (e_call (FnG.mono (ok__law_next hy) (by decide)) hr rfl hy.m__law_next hy.k__law_next px (a_cons (v_ 0) (a_cons (e_int) (a_nil)))) (e_int)) (e_sl (v_ 8) (o_none) (o_some (e_int))) (e_sl (e_rev (v_ 8)) (o_none) (o_some (e_int))))) (ss_cons (s_put (hu_of hr) (v_ 3) (v_ 5) (e_tup (a_cons (e_add (e_int) (e_call (FnG.mono (ok__law_next hy) (by decide)) hr rfl hy.m__law_next hy.k__law_next px (a_cons (v_ 0) (a_cons (e_int) (a_nil))))) (a_cons (e_tuple rfl hy.n_tuple (a_cons (v_ 8) (a_nil))) (a_cons (e_eq hr (e_call (FnG.mono (ok__law_next hy) (by decide)) hr rfl hy.m__law_next hy.k__law_next px (a_cons (v_ 0) (a_cons (e_int) (a_nil)))) (e_int)) (a_nil)))))) (ss_one (s_set (i := 4) nd__law_drawn rfl (by first | exact Or.inl rfl | exact Or.inr rfl) (e_add (v_ 4) (e_lc (own := [("_law_one", 9)]) (is := [9]) rfl nd__law_drawn (i_seq rfl (v_ 8)) (blkOk_by (N := N__law_drawn) (sc := defScope s__law_drawn) (by decide +kernel)) (by decide) (fun _ _ _ _ _ => g_name nd__law_drawn rfl (by first | exact Or.inl rfl | exact Or.inr rfl)) (fun _ _ _ _ _ => ts_nil) (fun _ _ _ _ _ => e_tup (a_cons (v_ 5) (a_cons (v_ 9) (a_nil))))))))))))) (ss_cons (s_set (i := 6) nd__law_drawn rfl (by first | exact Or.inl rfl | exact Or.inr rfl) (e_dict0 true)) (ss_cons (s_for (is := [7]) po rfl (i_range1 (by rfl) hy.n_range (a_cons (e_call (FnG.mono (ok__law_next hy) (by decide)) hr rfl hy.m__law_next hy.k__law_next px (a_cons (v_ 0) (a_cons (e_add (v_ 1) (e_int)) (a_nil)))) (a_nil))) (g_name nd__law_drawn rfl (by first | exact Or.inl rfl | exact Or.inr rfl)) (ss_one (s_if (t_ne hr (v_ 4) (e_lst (a_nil))) (ss_one (s_put (hu_of hr) (v_ 6) (e_call (FnG.mono (ok__law_pick hy) (by decide)) hr rfl hy.m__law_pick hy.k__law_pick px (a_cons (v_ 0) (a_cons (v_ 4) (a_nil)))) (e_add (e_int) (e_call (FnG.mono (ok__law_next hy) (by decide)) hr rfl hy.m__law_next hy.k__law_next px (a_cons (v_ 0) (a_cons (e_int) (a_nil))))))) (ss_nil)))) (ss_frz 3 (ss_frz 6 (ss_one (s_ret (e_tup (a_cons (v_ 3) (a_cons (e_call (FnG.mono (ok__law_pick hy) (by decide)) hr rfl hy.m__law_pick hy.k__law_pick px (a_cons (v_ 0) (a_cons (v_ 2) (a_nil)))) (a_cons (v_ 6) (a_nil)))))))))))))
theorem ok__law_drawn (hy : Fs K mg) : FnG P w K (tb K) mg base (L2.CX P w) 5 (He.fAd K ("_law_drawn", none)) [] G__law_drawn := by
  obtain ⟨fd, F⟩ := hy.d__law_drawn
  exact fn_G (dl := []) (dd := []) F sc__law_drawn (F.bindsN fun _ _ _ _ _ _ us hl => match us, hl with | [_, _], _ => rfl) .nil (fun _ _ => rfl) fun cdv A outer s H E hr => body__law_drawn hy hr
abbrev N__law_ways : List Str := ["_law_drawn_here", "_law_name", "_law_some", "_law_one"]
theorem nd__law_ways : (N__law_ways).Nodup := by decide +kernel
theorem sc__law_ways : FnScope N__law_ways (["_law_drawn_here", "_law_name", "_law_some"]) (defScope s__law_ways) := ⟨rfl, rfl, rfl, by decide +kernel, rfl, by decide +kernel, by decide +kernel⟩
theorem body__law_ways (hy : Fs K mg) {f : Addr} {cdv : Value} {A : Around} {outer : List Env} {s : Shared} {H : Hp} {E : XK} (hr : Room 0 (A.deeper (envOfC "_law_ways" (defScope s__law_ways) s.heap.objs.size f cdv))) :
    PSs (cxOf (L2.CX P w) P w K mg base N__law_ways "_law_ways" (defScope s__law_ways) f cdv A outer s H E) (defBody s__law_ways) (tS K (tb K) (WK E) dS__law_ways) := by
  have px : ∀ σ, PassesAt (L2.CX P w) (cxOf (L2.CX P w) P w K mg base N__law_ways "_law_ways" (defScope s__law_ways) f cdv A outer s H E) σ (WE (WK E) σ) := fun σ => passAt (takes_of rfl rfl rfl rfl) σ
  have po : PassesOwn (model P w) (cxOf (L2.CX P w) P w K mg base N__law_ways "_law_ways" (defScope s__law_ways) f cdv A outer s H E).A (cxOf (L2.CX P w) P w K mg base N__law_ways "_law_ways" (defScope s__law_ways) f cdv A outer s H E).env (cxOf (L2.CX P w) P w K mg base N__law_ways "_law_ways" (defScope s__law_ways) f cdv A outer s H E).xe := passes_of rfl
  exact ss_one (s_ret (e_lc (own := [("_law_one", 3)]) (is := [3]) rfl nd__law_ways (i_seq rfl (e_ix (hu_of hr) (e_ix (hu_of hr) (e_ix (hu_of hr) (v_ 0) (e_int)) (v_ 1)) (e_int))) (blkOk_by (N := N__law_ways) (sc := defScope s__law_ways) (by decide +kernel)) (by decide) (fun _ _ _ _ _ => g_name nd__law_ways rfl (by first | exact Or.inl rfl | exact Or.inr rfl)) (fun _ _ _ _ _ => ts_one (t_nin hr (e_tup (a_cons (v_ 1) (a_cons (v_ 3) (a_nil)))) (v_ 2))) (fun _ _ _ _ _ => v_ 3)))
theorem ok__law_ways (hy : Fs K mg) : FnG P w K (tb K) mg base (L2.CX P w) 1 (He.fAd K ("_law_ways", none)) [] G__law_ways := by
  obtain ⟨fd, F⟩ := hy.d__law_ways
  exact fn_G (dl := []) (dd := []) F sc__law_ways (F.bindsN fun _ _ _ _ _ _ us hl => match us, hl with | [_, _, _], _ => rfl) .nil (fun _ _ => rfl) fun cdv A outer s H E hr => body__law_ways hy hr
abbrev N__law_far : List Str := ["_law_drawn_here", "_law_some", "_law_table", "_law_number_here", "_law_name", "_law_owner", "_law_aims", "_law_is_end", "_law_left", "_law_near", "_law_one"]
theorem nd__law_far : (N__law_far).Nodup := by decide +kernel
theorem sc__law_far : FnScope N__law_far (["_law_drawn_here", "_law_some"]) (defScope s__law_far) := ⟨rfl, rfl, rfl, by decide +kernel, rfl, by decide +kernel, by decide +kernel⟩
theorem body__law_far (hy : Fs K mg) {f : Addr} {cdv : Value} {A : Around} {outer : List Env} {s : Shared} {H : Hp} {E : XK} (hr : Room 1 (A.deeper (envOfC "_law_far" (defScope s__law_far) s.heap.objs.size f cdv))) :
    PSs (cxOf (L2.CX P w) P w K mg base N__law_far "_law_far" (defScope s__law_far) f cdv A outer s H E) (defBody s__law_far) (tS K (tb K) (WK E) dS__law_far) := by
  have px : ∀ σ, PassesAt (L2.CX P w) (cxOf (L2.CX P w) P w K mg base N__law_far "_law_far" (defScope s__law_far) f cdv A outer s H E) σ (WE (WK E) σ) := fun σ => passAt (takes_of rfl rfl rfl rfl) σ
  have po : PassesOwn (model P w) (cxOf (L2.CX P w) P w K mg base N__law_far "_law_far" (defScope s__law_far) f cdv A outer s H E).A (cxOf (L2.CX P w) P w K mg base N__law_far "_law_far" (defScope s__law_far) f cdv A outer s H E).env (cxOf (L2.CX P w) P w K mg base N__law_far "_law_far" (defScope s__law_far) f cdv A outer s H E).xe := passes_of rfl
  exact ss_cons (s_parU (is := [2, 3]) rfl (a_cons (e_dict0 false) (a_cons (e_int) (a_nil))) (v_cons nd__law_far rfl (by first | exact Or.inl rfl | exact Or.inr rfl) (v_cons nd__law_far rfl (by first | exact Or.inl rfl | exact Or.inr rfl) (v_nil))) (by decide) (hi := by decide)) (ss_cons (s_for (is := [4]) po rfl (i_seq rfl (e_ix (hu_of hr) (v_ 0) (e_int))) (g_name nd__law_far rfl (by first | exact Or.inl rfl | exact Or.inr rfl)) (ss_cons (s_unp (e_ix (hu_of hr) (e_ix (hu_of hr) (v_ 0) (e_int)) (v_ 4)) (g_tup rfl (g_cons nd__law_far rfl (by first | exact Or.inl rfl | exact Or.inr rfl) (g_cons nd__law_far rfl (by first | exact Or.inl rfl | exact Or.inr rfl) (g_cons nd__law_far rfl (by first | exact Or.inl rfl | exact Or.inr rfl) (g_nil)))) rfl)) (ss_one (s_put (hu_of hr) (v_ 2) (v_ 4) (e_if (t_w (w_or (t_val (v_ 7)) (w_or1 (t_w (w_and (t_eq hr (v_ 5) (e_int)) (w_and1 (t_eq hr (e_call (FnG.mono (ok__law_ways hy) (by decide)) hr rfl hy.m__law_ways hy.k__law_ways px (a_cons (v_ 0) (a_cons (v_ 4) (a_cons (v_ 1) (a_nil))))) (e_lst (a_nil))))))))) (e_int) (e_non)))))) (ss_cons (s_for (is := [3]) po rfl (i_range2 (by rfl) hy.n_range (a_cons (e_int) (a_cons (e_add (e_len hr rfl hy.n_len (a_cons (e_ix (hu_of hr) (v_ 0) (e_int)) (a_nil))) (e_int)) (a_nil)))) (g_name nd__law_far rfl (by first | exact Or.inl rfl | exact Or.inr rfl)) (ss_one (s_for (is := [4]) po rfl (i_seq rfl (e_ix (hu_of hr) (v_ 0) (e_int))) (g_name nd__law_far rfl (by first | exact Or.inl rfl | exact Or.inr rfl)) (ss_cons (s_set (i := 8) nd__law_far rfl (by first | exact Or.inl rfl | exact Or.inr rfl) (e_call (FnG.mono (ok__law_ways hy) (by decide)) hr rfl hy.m__law_ways hy.k__law_ways px (a_cons (v_ 0) (a_cons (v_ 4) (a_cons (v_ 1) (a_nil)))))) (ss_cons (s_setLc (i := 9) (own := [("_law_one", 10)]) (is := [10]) rfl nd__law_far rfl rfl (sw_true rfl rfl rfl (by decide +kernel)) (i_seq rfl (v_ 8)) (blkOk_by (N := N__law_far) (sc := defScope s__law_far) (by decide +kernel)) (by decide) (fun _ _ _ _ _ => g_name nd__law_far rfl (by first | exact Or.inl rfl | exact Or.inr rfl)) (fun _ _ _ _ _ => ts_one (t_notN (e_ix (hu_of hr) (v_ 2) (v_ 10)) (e_non))) (fun _ _ _ _ _ => v_ 10)) (ss_cons (s_setLc (i := 9) (own := [("_law_one", 10)]) (is := [10]) rfl nd__law_far rfl rfl (sw_true rfl rfl rfl (by decide +kernel)) (i_seq rfl (v_ 9)) (blkOk_by (N := N__law_far) (sc := defScope s__law_far) (by decide +kernel)) (by decide) (fun _ _ _ _ _ => g_name nd__law_far rfl (by first | exact Or.inl rfl | exact Or.inr rfl)) (fun _ _ _ _ _ => ts_one (t_lt (e_ix (hu_of hr) (v_ 2) (v_ 10)) (v_ 3))) (fun _ _ _ _ _ => v_ 10)) (ss_one (s_if (t_w (w_and (t_isN (e_ix (hu_of hr) (v_ 2) (v_ 4)) (e_non)) (w_and1 (t_ne hr (v_ 9) (e_lst (a_nil)))))) (ss_one (s_if (t_w (w_or (t_eq hr (e_ix (hu_of hr) (e_ix (hu_of hr) (e_ix (hu_of hr) (v_ 0) (e_int)) (v_ 4)) (e_int)) (e_int)) (w_or1 (t_eq hr (e_len hr rfl hy.n_len (a_cons (v_ 9) (a_nil))) (e_len hr rfl hy.n_len (a_cons (v_ 8) (a_nil))))))) (ss_one (s_put (hu_of hr) (v_ 2) (v_ 4) (v_ 3))) (ss_nil))) (ss_nil))))))))) (ss_frz 2 (ss_one (s_ret (v_ 2))))))
theorem ok__law_far (hy : Fs K mg) : FnG P w K (tb K) mg base (L2.CX P w) 2 (He.fAd K ("_law_far", none)) [] G__law_far := by
  obtain ⟨fd, F⟩ := hy.d__law_far
  exact fn_G (dl := []) (dd := []) F sc__law_far (F.bindsN fun _ _ _ _ _ _ us hl => match us, hl with | [_, _], _ => rfl) .nil (fun _ _ => rfl) fun cdv A outer s H E hr => body__law_far hy hr
abbrev N_check_board : List Str := ["board"]
theorem nd_check_board : (N_check_board).Nodup := by decide +kernel
theorem sc_check_board : FnScope N_check_board (["board"]) (defScope s_check_board) := ⟨rfl, rfl, rfl, by decide +kernel, rfl, by decide +kernel, by decide +kernel⟩
theorem body_check_board (hy : Fs K mg) {f : Addr} {cdv : Value} {A : Around} {outer : List Env} {s : Shared} {H : Hp} {E : XK} (hr : Room 0 (A.deeper (envOfC "check_board" (defScope s_check_board) s.heap.objs.size f cdv))) :
    PSs (cxOf (L2.CX P w) P w K mg base N_check_board "check_board" (defScope s_check_board) f cdv A outer s H E) (defBody s_check_board) (tS K (tb K) (WK E) dS_check_board) := by
  have px : ∀ σ, PassesAt (L2.CX P w) (cxOf (L2.CX P w) P w K mg base N_check_board "check_board" (defScope s_check_board) f cdv A outer s H E) σ (WE (WK E) σ) := fun σ => passAt (takes_of rfl rfl rfl rfl) σ
  have po : PassesOwn (model P w) (cxOf (L2.CX P w) P w K mg base N_check_board "check_board" (defScope s_check_board) f cdv A outer s H E).A (cxOf (L2.CX P w) P w K mg base N_check_board "check_board" (defScope s_check_board) f cdv A outer s H E).env (cxOf (L2.CX P w) P w K mg base N_check_board "check_board" (defScope s_check_board) f cdv A outer s H E).xe := passes_of rfl
  exact ss_one (s_if (t_not (t_val (e_isi (.own _) hy.q_Board rfl hy.n_isinstance rfl (v_ 0) (C8.pe_gc rfl ⟨_, hy.g_Board, rfl⟩)))) (ss_one (s_never)) (ss_nil))
theorem ok_check_board (hy : Fs K mg) : FnG P w K (tb K) mg base (L2.CX P w) 1 (He.fAd K ("check_board", none)) [] G_check_board := by
  obtain ⟨fd, F⟩ := hy.d_check_board
  exact fn_G (dl := []) (dd := []) F sc_check_board (F.bindsN fun _ _ _ _ _ _ us hl => match us, hl with | [_], _ => rfl) .nil (fun _ _ => rfl) fun cdv A outer s H E hr => body_check_board hy hr
abbrev N_is_set : List Str := ["board", "value", "move"]
theorem nd_is_set : (N_is_set).Nodup := by decide +kernel
theorem sc_is_set : FnScope N_is_set (["board", "value"]) (defScope s_is_set) := ⟨rfl, rfl, rfl, by decide +kernel, rfl, by decide +kernel, by decide +kernel⟩
theorem body_is_set (hy : Fs K mg) {f : Addr} {cdv : Value} {A : Around} {outer : List Env} {s : Shared} {H : Hp} {E : XK} (hr : Room 1 (A.deeper (envOfC "is_set" (defScope s_is_set) s.heap.objs.size f cdv))) :
    PSs (cxOf (L2.CX P w) P w K mg base N_is_set "is_set" (defScope s_is_set) f cdv A outer s H E) (defBody s_is_set) (tS K (tb K) (WK E) dS_is_set) := by
  have px : ∀ σ, PassesAt (L2.CX P w) (cxOf (L2.CX P w) P w K mg base N_is_set "is_set" (defScope s_is_set) f cdv A outer s H E) σ (WE (WK E) σ) := fun σ => passAt (takes_of rfl rfl rfl rfl) σ
  have po : PassesOwn (model P w) (cxOf (L2.CX P w) P w K mg base N_is_set "is_set" (defScope s_is_set) f cdv A outer s H E).A (cxOf (L2.CX P w) P w K mg base N_is_set "is_set" (defScope s_is_set) f cdv A outer s H E).env (cxOf (L2.CX P w) P w K mg base N_is_set "is_set" (defScope s_is_set) f cdv A outer s H E).xe := passes_of rfl
  exact ss_cons (s_if (t_w (w_or (t_not (t_val (e_isi (.ty _) hy.q_tuple rfl hy.n_isinstance rfl (v_ 1) (pe_bltn rfl hy.n_tuple rfl rfl)))) (w_or1 (t_not (t_val (e_all rfl rfl hy.n_all (a_cons (e_lc (own := [("move", 2)]) (is := [2]) rfl nd_is_set (i_seq rfl (v_ 1)) (blkOk_by (N := N_is_set) (sc := defScope s_is_set) (by decide +kernel)) (by decide) (fun _ _ _ _ _ => g_name nd_is_set rfl (by first | exact Or.inl rfl | exact Or.inr rfl)) (fun _ _ _ _ _ => ts_nil) (fun _ _ _ _ _ => e_call (FnG.mono (ok_is_move hy) (by decide)) hr rfl hy.m_is_move hy.k_is_move pf (a_cons (e_fld hy.f_lines (v_ 0)) (a_cons (v_ 2) (a_nil))))) (a_nil)))))))) (ss_one (s_ret (e_bl))) (ss_nil)) (ss_one (s_ret (e_eq hr (e_list false rfl rfl hy.n_list (a_cons (v_ 1) (a_nil))) (e_lc (own := [("move", 2)]) (is := [2]) rfl nd_is_set (i_seq rfl (e_fld hy.f_fees (v_ 0))) (blkOk_by (N := N_is_set) (sc := defScope s_is_set) (by decide +kernel)) (by decide) (fun _ _ _ _ _ => g_name nd_is_set rfl (by first | exact Or.inl rfl | exact Or.inr rfl)) (fun _ _ _ _ _ => ts_one (t_in hr (v_ 2) (v_ 1))) (fun _ _ _ _ _ => v_ 2)))))
theorem ok_is_set (hy : Fs K mg) : FnG P w K (tb K) mg base (L2.CX P w) 2 (He.fAd K ("is_set", none)) [] G_is_set := by
  obtain ⟨fd, F⟩ := hy.d_is_set
  exact fn_G (dl := []) (dd := []) F sc_is_set (F.bindsN fun _ _ _ _ _ _ us hl => match us, hl with | [_, _], _ => rfl) .nil (fun _ _ => rfl) fun cdv A outer s H E hr => body_is_set hy hr
abbrev N_check_set : List Str := ["board", "forbidden"]
theorem nd_check_set : (N_check_set).Nodup := by decide +kernel
theorem sc_check_set : FnScope N_check_set (["board", "forbidden"]) (defScope s_check_set) := ⟨rfl, rfl, rfl, by decide +kernel, rfl, by decide +kernel, by decide +kernel⟩
theorem body_check_set (hy : Fs K mg) {f : Addr} {cdv : Value} {A : Around} {outer : List Env} {s : Shared} {H : Hp} {E : XK} (hr : Room 2 (A.deeper (envOfC "check_set" (defScope s_check_set) s.heap.objs.size f cdv))) :
    PSs (cxOf (L2.CX P w) P w K mg base N_check_set "check_set" (defScope s_check_set) f cdv A outer s H E) (defBody s_check_set) (tS K (tb K) (WK E) dS_check_set) := by
  have px : ∀ σ, PassesAt (L2.CX P w) (cxOf (L2.CX P w) P w K mg base N_check_set "check_set" (defScope s_check_set) f cdv A outer s H E) σ (WE (WK E) σ) := fun σ => passAt (takes_of rfl rfl rfl rfl) σ
  have po : PassesOwn (model P w) (cxOf (L2.CX P w) P w K mg base N_check_set "check_set" (defScope s_check_set) f cdv A outer s H E).A (cxOf (L2.CX P w) P w K mg base N_check_set "check_set" (defScope s_check_set) f cdv A outer s H E).env (cxOf (L2.CX P w) P w K mg base N_check_set "check_set" (defScope s_check_set) f cdv A outer s H E).xe := passes_of rfl
  exact ss_cons (s_expr (e_call (FnG.mono (ok_check_board hy) (by decide)) hr rfl hy.m_check_board hy.k_check_board px (a_cons (v_ 0) (a_nil)))) (ss_one (s_if (t_not (t_val (e_call (FnG.mono (ok_is_set hy) (by decide)) hr rfl hy.m_is_set hy.k_is_set px (a_cons (v_ 0) (a_cons (v_ 1) (a_nil)))))) (ss_one (s_never)) (ss_nil)))
theorem ok_check_set (hy : Fs K mg) : FnG P w K (tb K) mg base (L2.CX P w) 3 (He.fAd K ("check_set", none)) [] G_check_set := by
  obtain ⟨fd, F⟩ := hy.d_check_set
  exact fn_G (dl := []) (dd := []) F sc_check_set (F.bindsN fun _ _ _ _ _ _ us hl => match us, hl with | [_, _], _ => rfl) .nil (fun _ _ => rfl) fun cdv A outer s H E hr => body_check_set hy hr
abbrev N_ways : List Str := ["board", "name", "forbidden", "other"]
theorem nd_ways : (N_ways).Nodup := by decide +kernel
theorem sc_ways : FnScope N_ways (["board", "name", "forbidden"]) (defScope s_ways) := ⟨rfl, rfl, rfl, by decide +kernel, rfl, by decide +kernel, by decide +kernel⟩
theorem body_ways (hy : Fs K mg) {f : Addr} {cdv : Value} {A : Around} {outer : List Env} {s : Shared} {H : Hp} {E : XK} (hr : Room 0 (A.deeper (envOfC "ways" (defScope s_ways) s.heap.objs.size f cdv))) :
    PSs (cxOf (L2.CX P w) P w K mg base N_ways "ways" (defScope s_ways) f cdv A outer s H E) (defBody s_ways) (tS K (tb K) (WK E) dS_ways) := by
  have px : ∀ σ, PassesAt (L2.CX P w) (cxOf (L2.CX P w) P w K mg base N_ways "ways" (defScope s_ways) f cdv A outer s H E) σ (WE (WK E) σ) := fun σ => passAt (takes_of rfl rfl rfl rfl) σ
  have po : PassesOwn (model P w) (cxOf (L2.CX P w) P w K mg base N_ways "ways" (defScope s_ways) f cdv A outer s H E).A (cxOf (L2.CX P w) P w K mg base N_ways "ways" (defScope s_ways) f cdv A outer s H E).env (cxOf (L2.CX P w) P w K mg base N_ways "ways" (defScope s_ways) f cdv A outer s H E).xe := passes_of rfl
  exact ss_one (s_ret (e_lc (own := [("other", 3)]) (is := [3]) rfl nd_ways (i_seq rfl (e_fld hy.f_aims (e_ix (hu_of hr) (e_fld hy.f_lines (v_ 0)) (v_ 1)))) (blkOk_by (N := N_ways) (sc := defScope s_ways) (by decide +kernel)) (by decide) (fun _ _ _ _ _ => g_name nd_ways rfl (by first | exact Or.inl rfl | exact Or.inr rfl)) (fun _ _ _ _ _ => ts_one (t_nin hr (e_tup (a_cons (v_ 1) (a_cons (v_ 3) (a_nil)))) (v_ 2))) (fun _ _ _ _ _ => v_ 3)))
theorem ok_ways (hy : Fs K mg) : FnG P w K (tb K) mg base (L2.CX P w) 1 (He.fAd K ("ways", none)) [] G_ways := by
  obtain ⟨fd, F⟩ := hy.d_ways
  exact fn_G (dl := []) (dd := []) F sc_ways (F.bindsN fun _ _ _ _ _ _ us hl => match us, hl with | [_, _, _], _ => rfl) .nil (fun _ _ => rfl) fun cdv A outer s H E hr => body_ways hy hr
abbrev N_is_won_at_once : List Str := ["board", "forbidden", "name", "field"]
theorem nd_is_won_at_once : (N_is_won_at_once).Nodup := by decide +kernel
theorem sc_is_won_at_once : FnScope N_is_won_at_once (["board", "forbidden", "name"]) (defScope s_is_won_at_once) := ⟨rfl, rfl, rfl, by decide +kernel, rfl, by decide +kernel, by decide +kernel⟩
theorem body_is_won_at_once (hy : Fs K mg) {f : Addr} {cdv : Value} {A : Around} {outer : List Env} {s : Shared} {H : Hp} {E : XK} (hr : Room 1 (A.deeper (envOfC "is_won_at_once" (defScope s_is_won_at_once) s.heap.objs.size f cdv))) :
    PSs (cxOf (L2.CX P w) P w K mg base N_is_won_at_once "is_won_at_once" (defScope s_is_won_at_once) f cdv A outer s H E) (defBody s_is_won_at_once) (tS K (tb K) (WK E) dS_is_won_at_once) := by
  have px : ∀ σ, PassesAt (L2.CX P w) (cxOf (L2.CX P w) P w K mg base N_is_won_at_once "is_won_at_once" (defScope s_is_won_at_once) f cdv A outer s H E) σ (WE (WK E) σ) := fun σ => passAt (takes_of rfl rfl rfl rfl) σ
  have po : PassesOwn (model P w) (cxOf (L2.CX P w) P w K mg base N_is_won_at_once "is_won_at_once" (defScope s_is_won_at_once) f cdv A outer s H E).A (cxOf (L2.CX P w) P w K mg base N_is_won_at_once "is_won_at_once" (defScope s_is_won_at_once) f cdv A outer s H E).env (cxOf (L2.CX P w) P w K mg base N_is_won_at_once "is_won_at_once" (defScope s_is_won_at_once) f cdv A outer s H E).xe := passes_of rfl
  exact ss_cons (s_set (i := 3) nd_is_won_at_once rfl (by first | exact Or.inl rfl | exact Or.inr rfl) (e_ix (hu_of hr) (e_fld hy.f_lines (v_ 0)) (v_ 2))) (ss_one (s_ret (e_or (e_fld hy.f_is_goal (v_ 3)) (e_one (e_and (e_eq hr (e_fld hy.f_side (v_ 3)) (e_int)) (e_one (e_eq hr (e_call (FnG.mono (ok_ways hy) (by decide)) hr rfl hy.m_ways hy.k_ways px (a_cons (v_ 0) (a_cons (v_ 2) (a_cons (v_ 1) (a_nil))))) (e_lst (a_nil)))))))))
theorem ok_is_won_at_once (hy : Fs K mg) : FnG P w K (tb K) mg base (L2.CX P w) 2 (He.fAd K ("is_won_at_once", none)) [] G_is_won_at_once := by
  obtain ⟨fd, F⟩ := hy.d_is_won_at_once
  exact fn_G (dl := []) (dd := []) F sc_is_won_at_once (F.bindsN fun _ _ _ _ _ _ us hl => match us, hl with | [_, _, _], _ => rfl) .nil (fun _ _ => rfl) fun cdv A outer s H E hr => body_is_won_at_once hy hr
abbrev N_leads_on : List Str := ["board", "forbidden", "found", "name", "some", "other"]
theorem nd_leads_on : (N_leads_on).Nodup := by decide +kernel
theorem sc_leads_on : FnScope N_leads_on (["board", "forbidden", "found", "name"]) (defScope s_leads_on) := ⟨rfl, rfl, rfl, by decide +kernel, rfl, by decide +kernel, by decide +kernel⟩
theorem body_leads_on (hy : Fs K mg) {f : Addr} {cdv : Value} {A : Around} {outer : List Env} {s : Shared} {H : Hp} {E : XK} (hr : Room 1 (A.deeper (envOfC "leads_on" (defScope s_leads_on) s.heap.objs.size f cdv))) :
    PSs (cxOf (L2.CX P w) P w K mg base N_leads_on "leads_on" (defScope s_leads_on) f cdv A outer s H E) (defBody s_leads_on) (tS K (tb K) (WK E) dS_leads_on) := by
  have px : ∀ σ, PassesAt (L2.CX P w) (cxOf (L2.CX P w) P w K mg base N_leads_on "leads_on" (defScope s_leads_on) f cdv A outer s H E) σ (WE (WK E) σ) := fun σ => passAt (takes_of rfl rfl rfl rfl) σ
  have po : PassesOwn (model P w) (cxOf (L2.CX P w) P w K mg base N_leads_on "leads_on" (defScope s_leads_on) f cdv A outer s H E).A (cxOf (L2.CX P w) P w K mg base N_leads_on "leads_on" (defScope s_leads_on) f cdv A outer s H E).env (cxOf (L2.CX P w) P w K mg base N_leads_on "leads_on" (defScope s_leads_on) f cdv A outer s H E).xe := passes_of rfl
  exact ss_cons (s_setLc (i := 4) (own := [("other", 5)]) (is := [5]) rfl nd_leads_on rfl rfl (sw_true rfl rfl rfl (by decide +kernel)) (i_seq rfl (e_call (FnG.mono (ok_ways hy) (by decide)) hr rfl hy.m_ways hy.k_ways px (a_cons (v_ 0) (a_cons (v_ 3) (a_cons (v_ 1) (a_nil)))))) (blkOk_by (N := N_leads_on) (sc := defScope s_leads_on) (by decide +kernel)) (by decide) (fun _ _ _ _ _ => g_name nd_leads_on rfl (by first | exact Or.inl rfl | exact Or.inr rfl)) (fun _ _ _ _ _ => ts_nil) (fun _ _ _ _ _ => e_in hr (v_ 5) (v_ 2))) (ss_one (s_ret (e_if (t_eq hr (e_fld hy.f_side (e_ix (hu_of hr) (e_fld hy.f_lines (v_ 0)) (v_ 3))) (e_int)) (e_any rfl rfl hy.n_any (a_cons (v_ 4) (a_nil))) (e_all rfl rfl hy.n_all (a_cons (v_ 4) (a_nil))))))
theorem ok_leads_on (hy : Fs K mg) : FnG P w K (tb K) mg base (L2.CX P w) 2 (He.fAd K ("leads_on", none)) [] G_leads_on := by
  obtain ⟨fd, F⟩ := hy.d_leads_on
  exact fn_G (dl := []) (dd := []) F sc_leads_on (F.bindsN fun _ _ _ _ _ _ us hl => match us, hl with | [_, _, _, _], _ => rfl) .nil (fun _ _ => rfl) fun cdv A outer s H E hr => body_leads_on hy hr
abbrev N_distances_of : List Str := ["board", "forbidden", "found", "number", "layer", "name"]
theorem nd_distances_of : (N_distances_of).Nodup := by decide +kernel
theorem sc_distances_of : FnScope N_distances_of (["board", "forbidden"]) (defScope s_distances_of) := ⟨rfl, rfl, rfl, by decide +kernel, rfl, by decide +kernel, by decide +kernel⟩
theorem body_distances_of (hy : Fs K mg) {f : Addr} {cdv : Value} {A : Around} {outer : List Env} {s : Shared} {H : Hp} {E : XK} (hr : Room 2 (A.deeper (envOfC "distances_of" (defScope s_distances_of) s.heap.objs.size f cdv))) :
    PSs (cxOf (L2.CX P w) P w K mg base N_distances_of "distances_of" (defScope s_distances_of) f cdv A outer s H E) (defBody s_distances_of) (tS K (tb K) (WK E) dS_distances_of) := by
  have px : ∀ σ, PassesAt (L2.CX P w) (cxOf (L2.CX P w) P w K mg base N_distances_of "distances_of" (defScope s_distances_of) f cdv A outer s H E) σ (WE (WK E) σ) := fun σ => passAt (takes_of rfl rfl rfl rfl) σ
  have po : PassesOwn (model P w) (cxOf (L2.CX P w) P w K mg base N_distances_of "distances_of" (defScope s_distances_of) f cdv A outer s H E).A (cxOf (L2.CX P w) P w K mg base N_distances_of "distances_of" (defScope s_distances_of) f cdv A outer s H E).env (cxOf (L2.CX P w) P w K mg base N_distances_of "distances_of" (defScope s_distances_of) f cdv A outer s H E).xe := passes_of rfl
  exact ss_cons (s_parU (is := [2, 3]) rfl (a_cons (e_dict0 false) (a_cons (e_int) (a_nil))) (v_cons nd_distances_of rfl (by first | exact Or.inl rfl | exact Or.inr rfl) (v_cons nd_distances_of rfl (by first | exact Or.inl rfl | exact Or.inr rfl) (v_nil))) (by decide) (hi := by decide)) (ss_cons (s_setLc (i := 4) (own := [("name", 5)]) (is := [5]) rfl nd_distances_of rfl rfl (sw_true rfl rfl rfl (by decide +kernel)) (i_seq rfl (e_fld hy.f_lines (v_ 0))) (blkOk_by (N := N_distances_of) (sc := defScope s_distances_of) (by decide +kernel)) (by decide) (fun _ _ _ _ _ => g_name nd_distances_of rfl (by first | exact Or.inl rfl | exact Or.inr rfl)) (fun _ _ _ _ _ => ts_one (t_val (e_call (FnG.mono (ok_is_won_at_once hy) (by decide)) hr rfl hy.m_is_won_at_once hy.k_is_won_at_once pf (a_cons (v_ 0) (a_cons (v_ 1) (a_cons (v_ 5) (a_nil))))))) (fun _ _ _ _ _ => v_ 5)) (ss_cons (s_while 1000 po (t_ne hr (v_ 4) (e_lst (a_nil))) (ss_cons (s_expr (e_upd (v_ 2) (a_cons (e_dc (hu_of hr) rfl nd_distances_of (own := [("name", 5)]) (is := [5]) (i_seq rfl (v_ 4)) (blkOk_by (N := N_distances_of) (sc := defScope s_distances_of) (by decide +kernel)) (by decide) (fun _ _ _ _ _ => g_name nd_distances_of rfl (by first | exact Or.inl rfl | exact Or.inr rfl)) (fun _ _ _ _ _ => ts_nil) (fun _ _ _ _ _ => v_ 5) (fun _ _ _ _ _ => v_ 3)) (a_nil)))) (ss_cons (s_inc nd_distances_of rfl (by first | exact Or.inl rfl | exact Or.inr rfl)) (ss_one (s_setLc (i := 4) (own := [("name", 5)]) (is := [5]) rfl nd_distances_of rfl rfl (sw_true rfl rfl rfl (by decide +kernel)) (i_seq rfl (e_fld hy.f_lines (v_ 0))) (blkOk_by (N := N_distances_of) (sc := defScope s_distances_of) (by decide +kernel)) (by decide) (fun _ _ _ _ _ => g_name nd_distances_of rfl (by first | exact Or.inl rfl | exact Or.inr rfl)) (fun _ _ _ _ _ => ts_one (t_w (w_and (t_nin hr (v_ 5) (v_ 2)) (w_and1 (t_val (e_call (FnG.mono (ok_leads_on hy) (by decide)) hr rfl hy.m_leads_on hy.k_leads_on pf (a_cons (v_ 0) (a_cons (v_ 1) (a_cons (v_ 2) (a_cons (v_ 5) (a_nil))))))))))) (fun _ _ _ _ _ => v_ 5)))))) (ss_frz 2 (ss_one (s_ret (v_ 2))))))
theorem ok_distances_of (hy : Fs K mg) : FnG P w K (tb K) mg base (L2.CX P w) 3 (He.fAd K ("distances_of", none)) [] G_distances_of := by
  obtain ⟨fd, F⟩ := hy.d_distances_of
  exact fn_G (dl := []) (dd := []) F sc_distances_of (F.bindsN fun _ _ _ _ _ _ us hl => match us, hl with | [_, _], _ => rfl) .nil (fun _ _ => rfl) fun cdv A outer s H E hr => body_distances_of hy hr
abbrev N_wins : List Str := ["board", "forbidden"]
theorem nd_wins : (N_wins).Nodup := by decide +kernel
theorem sc_wins : FnScope N_wins (["board", "forbidden"]) (defScope s_wins) := ⟨rfl, rfl, rfl, by decide +kernel, rfl, by decide +kernel, by decide +kernel⟩
theorem body_wins (hy : Fs K mg) {f : Addr} {cdv : Value} {A : Around} {outer : List Env} {s : Shared} {H : Hp} {E : XK} (hr : Room 3 (A.deeper (envOfC "wins" (defScope s_wins) s.heap.objs.size f cdv))) :
    PSs (cxOf (L2.CX P w) P w K mg base N_wins "wins" (defScope s_wins) f cdv A outer s H E) (defBody s_wins) (tS K (tb K) (WK E) dS_wins) := by
  have px : ∀ σ, PassesAt (L2.CX P w) (cxOf (L2.CX P w) P w K mg base N_wins "wins" (defScope s_wins) f cdv A outer s H E) σ (WE (WK E) σ) := fun σ => passAt (takes_of rfl rfl rfl rfl) σ
  have po : PassesOwn (model P w) (cxOf (L2.CX P w) P w K mg base N_wins "wins" (defScope s_wins) f cdv A outer s H E).A (cxOf (L2.CX P w) P w K mg base N_wins "wins" (defScope s_wins) f cdv A outer s H E).env (cxOf (L2.CX P w) P w K mg base N_wins "wins" (defScope s_wins) f cdv A outer s H E).xe := passes_of rfl
  exact ss_one (s_ret (e_in hr (e_fld hy.f_begin (v_ 0)) (e_call (FnG.mono (ok_distances_of hy) (by decide)) hr rfl hy.m_distances_of hy.k_distances_of px (a_cons (v_ 0) (a_cons (v_ 1) (a_nil))))))
theorem ok_wins (hy : Fs K mg) : FnG P w K (tb K) mg base (L2.CX P w) 4 (He.fAd K ("wins", none)) [] G_wins := by
  obtain ⟨fd, F⟩ := hy.d_wins
  exact fn_G (dl := []) (dd := []) F sc_wins (F.bindsN fun _ _ _ _ _ _ us hl => match us, hl with | [_, _], _ => rfl) .nil (fun _ _ => rfl) fun cdv A outer s H E hr => body_wins hy hr
abbrev N_needless : List Str := ["board", "forbidden", "move", "one"]
theorem nd_needless : (N_needless).Nodup := by decide +kernel
theorem sc_needless : FnScope N_needless (["board", "forbidden"]) (defScope s_needless) := ⟨rfl, rfl, rfl, by decide +kernel, rfl, by decide +kernel, by decide +kernel⟩
theorem body_needless (hy : Fs K mg) {f : Addr} {cdv : Value} {A : Around} {outer : List Env} {s : Shared} {H : Hp} {E : XK} (hr : Room 4 (A.deeper (envOfC "needless" (defScope s_needless) s.heap.objs.size f cdv))) :
    PSs (cxOf (L2.CX P w) P w K mg base N_needless "needless" (defScope s_needless) f cdv A outer s H E) (defBody s_needless) (tS K (tb K) (WK E) dS_needless) := by
  have px : ∀ σ, PassesAt (L2.CX P w) (cxOf (L2.CX P w) P w K mg base N_needless "needless" (defScope s_needless) f cdv A outer s H E) σ (WE (WK E) σ) := fun σ => passAt (takes_of rfl rfl rfl rfl) σ
  have po : PassesOwn (model P w) (cxOf (L2.CX P w) P w K mg base N_needless "needless" (defScope s_needless) f cdv A outer s H E).A (cxOf (L2.CX P w) P w K mg base N_needless "needless" (defScope s_needless) f cdv A outer s H E).env (cxOf (L2.CX P w) P w K mg base N_needless "needless" (defScope s_needless) f cdv A outer s H E).xe := passes_of rfl
  exact ss_cons (s_expr (e_call (FnG.mono (ok_check_set hy) (by decide)) hr rfl hy.m_check_set hy.k_check_set px (a_cons (v_ 0) (a_cons (v_ 1) (a_nil))))) (ss_cons (s_if (t_not (t_val (e_call (FnG.mono (ok_wins hy) (by decide)) hr rfl hy.m_wins hy.k_wins px (a_cons (v_ 0) (a_cons (v_ 1) (a_nil)))))) (ss_one (s_raise0 (i := 9) rfl (takes_of rfl rfl rfl rfl) PySem.F.excBase_ValueError hy.ex_NotWinning.1 hy.g_NotWinning hy.ex_NotWinning.2.1 hy.ex_NotWinning.2.2 rfl)) (ss_nil)) (ss_one (s_ret (e_lc (own := [("move", 2)]) (is := [2]) rfl nd_needless (i_seq rfl (v_ 1)) (blkOk_by (N := N_needless) (sc := defScope s_needless) (by decide +kernel)) (by decide) (fun _ _ _ _ _ => g_name nd_needless rfl (by first | exact Or.inl rfl | exact Or.inr rfl)) (fun _ _ _ _ _ => ts_one (t_val (e_call (FnG.mono (ok_wins hy) (by decide)) hr rfl hy.m_wins hy.k_wins pf (a_cons (v_ 0) (a_cons (e_tuple rfl hy.n_tuple (a_cons (e_lc (own := [("one", 3)]) (is := [3]) rfl nd_needless (i_seq rfl (v_ 1)) (blkOk_by (by kernel_rfl)) (by decide) (fun _ _ _ _ _ => g_name nd_needless rfl (by first | exact Or.inl rfl | exact Or.inr rfl)) (fun _ _ _ _ _ => ts_one (t_ne hr (v_ 3) (v_ 2))) (fun _ _ _ _ _ => v_ 3)) (a_nil))) (a_nil)))))) (fun _ _ _ _ _ => v_ 2)))))
theorem ok_needless (hy : Fs K mg) : FnG P w K (tb K) mg base (L2.CX P w) 5 (He.fAd K ("needless", none)) [] G_needless := by
  obtain ⟨fd, F⟩ := hy.d_needless
  exact fn_G (dl := []) (dd := []) F sc_needless (F.bindsN fun _ _ _ _ _ _ us hl => match us, hl with | [_, _], _ => rfl) .nil (fun _ _ => rfl) fun cdv A outer s H E hr => body_needless hy hr
abbrev N__law_refused : List Str := ["_law_board_here", "_law_some"]
theorem nd__law_refused : (N__law_refused).Nodup := by decide +kernel
theorem sc__law_refused : FnScope N__law_refused (["_law_board_here", "_law_some"]) (defScope s__law_refused) := ⟨rfl, rfl, rfl, by decide +kernel, rfl, by decide +kernel, by decide +kernel⟩
def dS__law_refused : DS := sSeq (sTry (sExpr (dCallG G_needless (dCons (dVar 0) (dCons (dVar 1) (dNil))))) x_NotWinning (sRet (dCon (.bl true)))) (sRet (dCon (.bl false)))
def G__law_refused : Gn := posG (fnD 2 2 dS__law_refused) []
theorem body__law_refused (hy : Fs K mg) {f : Addr} {cdv : Value} {A : Around} {outer : List Env} {s : Shared} {H : Hp} {E : XK} (hr : Room 5 (A.deeper (envOfC "_law_refused" (defScope s__law_refused) s.heap.objs.size f cdv))) :
    PSs (cxOf (L2.CX P w) P w K mg base N__law_refused "_law_refused" (defScope s__law_refused) f cdv A outer s H E) (defBody s__law_refused) (tS K (tb K) (WK E) dS__law_refused) := by
  have px : ∀ σ, PassesAt (L2.CX P w) (cxOf (L2.CX P w) P w K mg base N__law_refused "_law_refused" (defScope s__law_refused) f cdv A outer s H E) σ (WE (WK E) σ) := fun σ => passAt (takes_of rfl rfl rfl rfl) σ
  have po : PassesOwn (model P w) (cxOf (L2.CX P w) P w K mg base N__law_refused "_law_refused" (defScope s__law_refused) f cdv A outer s H E).A (cxOf (L2.CX P w) P w K mg base N__law_refused "_law_refused" (defScope s__law_refused) f cdv A outer s H E).env (cxOf (L2.CX P w) P w K mg base N__law_refused "_law_refused" (defScope s__law_refused) f cdv A outer s H E).xe := passes_of rfl
  exact ss_cons (s_try rfl rfl ⟨rfl, by decide, Or.inl hy.g_NotWinning⟩ (takes_of rfl rfl rfl rfl) hy.xm_NotWinning (fun W1 pn xe tk po1 => ss_one (s_expr (e_call (FnG.mono (ok_needless hy) (by decide)) hr rfl hy.m_needless hy.k_needless (fun σ => passAt tk σ) (a_cons (v_ 0) (a_cons (v_ 1) (a_nil)))))) (fun a0 oe cls d pn => ss_one (s_ret (e_bl)))) (ss_one (s_ret (e_bl)))
theorem ok__law_refused (hy : Fs K mg) : FnG P w K (tb K) mg base (L2.CX P w) 6 (He.fAd K ("_law_refused", none)) [] G__law_refused := by
  obtain ⟨fd, F⟩ := hy.d__law_refused
  exact fn_G (dl := []) (dd := []) F sc__law_refused (F.bindsN fun _ _ _ _ _ _ us hl => match us, hl with | [_, _], _ => rfl) .nil (fun _ _ => rfl) fun cdv A outer s H E hr => body__law_refused hy hr
abbrev N__law_sets : List Str := ["_law_drawn_here", "_law_moves", "_law_found", "_law_layer", "_law_late", "_law_some", "_law_begin", "_law_move"]
theorem nd__law_sets : (N__law_sets).Nodup := by decide +kernel
theorem sc__law_sets : FnScope N__law_sets (["_law_drawn_here"]) (defScope s__law_sets) := ⟨rfl, rfl, rfl, by decide +kernel, rfl, by decide +kernel, by decide +kernel⟩
theorem body__law_sets (hy : Fs K mg) {f : Addr} {cdv : Value} {A : Around} {outer : List Env} {s : Shared} {H : Hp} {E : XK} (hr : Room 0 (A.deeper (envOfC "_law_sets" (defScope s__law_sets) s.heap.objs.size f cdv))) :
    PSs (cxOf (L2.CX P w) P w K mg base N__law_sets "_law_sets" (defScope s__law_sets) f cdv A outer s H E) (defBody s__law_sets) (tS K (tb K) (WK E) dS__law_sets) := by
  have px : ∀ σ, PassesAt (L2.CX P w) (cxOf (L2.CX P w) P w K mg base N__law_sets "_law_sets" (defScope s__law_sets) f cdv A outer s H E) σ (WE (WK E) σ) := fun σ => passAt (takes_of rfl rfl rfl rfl) σ
  have po : PassesOwn (model P w) (cxOf (L2.CX P w) P w K mg base N__law_sets "_law_sets" (defScope s__law_sets) f cdv A outer s H E).A (cxOf (L2.CX P w) P w K mg base N__law_sets "_law_sets" (defScope s__law_sets) f cdv A outer s H E).env (cxOf (L2.CX P w) P w K mg base N__law_sets "_law_sets" (defScope s__law_sets) f cdv A outer s H E).xe := passes_of rfl
  exact ss_cons (s_par3 (i := 1) (j := 2) (l := 3) rfl nd__law_sets rfl rfl rfl (by decide) (by decide) (by decide) rfl rfl rfl (a_cons (e_list false rfl rfl hy.n_list (a_cons (e_ix (hu_of hr) (v_ 0) (e_int)) (a_nil))) (a_cons (e_lst (a_cons (e_tup (a_nil)) (a_nil))) (a_cons (e_lst (a_cons (e_tup (a_nil)) (a_nil))) (a_nil)))) (by with_unfolding_all rfl)) (ss_cons (s_while 1000 po (t_ne hr (v_ 3) (e_lst (a_nil))) (ss_cons (s_set (i := 4) nd__law_sets rfl (by first | exact Or.inl rfl | exact Or.inr rfl) (e_lst (a_nil))) (ss_cons (s_for (is := [5]) po rfl (i_seq rfl (v_ 3)) (g_name nd__law_sets rfl (by first | exact Or.inl rfl | exact Or.inr rfl)) (ss_cons (s_set (i := 6) nd__law_sets rfl (by first | exact Or.inl rfl | exact Or.inr rfl) (e_if (t_ne hr (v_ 5) (e_tup (a_nil))) (e_add (e_mth PySem.F.slot_list_index PySem.F.type_list_index (m_index (hu65 hr)) (v_ 1) (a_cons (e_ix (hu_of hr) (v_ 5) (e_neg (e_int))) (a_nil))) (e_int)) (e_int))) (ss_one (s_set (i := 4) nd__law_sets rfl (by first | exact Or.inl rfl | exact Or.inr rfl) (e_add (v_ 4) (e_lc (own := [("_law_move", 7)]) (is := [7]) rfl nd__law_sets (i_seq rfl (e_sl (v_ 1) (o_some (v_ 6)) (o_none))) (blkOk_by (N := N__law_sets) (sc := defScope s__law_sets) (by decide +kernel)) (by decide) (fun _ _ _ _ _ => g_name nd__law_sets rfl (by first | exact Or.inl rfl | exact Or.inr rfl)) (fun _ _ _ _ _ => ts_nil) (fun _ _ _ _ _ => e_add (v_ 5) (e_tup (a_cons (v_ 7) (a_nil)))))))))) (ss_one (s_par2 (i := 2) (j := 3) rfl nd__law_sets rfl rfl (by decide) rfl rfl (a_cons (e_add (v_ 2) (v_ 4)) (a_cons (v_ 4) (a_nil))) (by with_unfolding_all rfl)))))) (ss_one (s_ret (v_ 2))))
theorem ok__law_sets (hy : Fs K mg) : FnG P w K (tb K) mg base (L2.CX P w) 1 (He.fAd K ("_law_sets", none)) [] G__law_sets := by
  obtain ⟨fd, F⟩ := hy.d__law_sets
  exact fn_G (dl := []) (dd := []) F sc__law_sets (F.bindsN fun _ _ _ _ _ _ us hl => match us, hl with | [_], _ => rfl) .nil (fun _ _ => rfl) fun cdv A outer s H E hr => body__law_sets hy hr
abbrev N_all_sets : List Str := ["board", "moves", "found", "layer", "later", "some", "begin", "move"]
theorem nd_all_sets : (N_all_sets).Nodup := by decide +kernel
theorem sc_all_sets : FnScope N_all_sets (["board"]) (defScope s_all_sets) := ⟨rfl, rfl, rfl, by decide +kernel, rfl, by decide +kernel, by decide +kernel⟩
theorem body_all_sets (hy : Fs K mg) {f : Addr} {cdv : Value} {A : Around} {outer : List Env} {s : Shared} {H : Hp} {E : XK} (hr : Room 0 (A.deeper (envOfC "all_sets" (defScope s_all_sets) s.heap.objs.size f cdv))) :
    PSs (cxOf (L2.CX P w) P w K mg base N_all_sets "all_sets" (defScope s_all_sets) f cdv A outer s H E) (defBody s_all_sets) (tS K (tb K) (WK E) dS_all_sets) := by
  have px : ∀ σ, PassesAt (L2.CX P w) (cxOf (L2.CX P w) P w K mg base N_all_sets "all_sets" (defScope s_all_sets) f cdv A outer s H E) σ (WE (WK E) σ) := fun σ => passAt (takes_of rfl rfl rfl rfl) σ
  have po : PassesOwn (model P w) (cxOf (L2.CX P w) P w K mg base N_all_sets "all_sets" (defScope s_all_sets) f cdv A outer s H E).A (cxOf (L2.CX P w) P w K mg base N_all_sets "all_sets" (defScope s_all_sets) f cdv A outer s H E).env (cxOf (L2.CX P w) P w K mg base N_all_sets "all_sets" (defScope s_all_sets) f cdv A outer s H E).xe := passes_of rfl
  exact ss_cons (s_par2 (i := 1) (j := 2) rfl nd_all_sets rfl rfl (by decide) rfl rfl (a_cons (e_list false rfl rfl hy.n_list (a_cons (e_fld hy.f_fees (v_ 0)) (a_nil))) (a_cons (e_lstL (a_cons (e_tup (a_nil)) (a_nil))) (a_nil))) (by with_unfolding_all rfl)) (ss_cons (s_set (i := 3) nd_all_sets rfl (by first | exact Or.inl rfl | exact Or.inr rfl) (e_lst (a_cons (e_tup (a_nil)) (a_nil)))) (ss_cons (s_while 1000 po (t_ne hr (v_ 3) (e_lst (a_nil))) (ss_cons (s_set (i := 4) nd_all_sets rfl (by first | exact Or.inl rfl | exact Or.inr rfl) (e_lstL (a_nil))) (ss_cons (s_for (is := [5]) po rfl (i_seq rfl (v_ 3)) (g_name nd_all_sets rfl (by first | exact Or.inl rfl | exact Or.inr rfl)) (ss_cons (s_set (i := 6) nd_all_sets rfl (by first | exact Or.inl rfl | exact Or.inr rfl) (e_if (t_ne hr (v_ 5) (e_tup (a_nil))) (e_add (e_mth PySem.F.slot_list_index PySem.F.type_list_index (m_index (hu65 hr)) (v_ 1) (a_cons (e_ix (hu_of hr) (v_ 5) (e_neg (e_int))) (a_nil))) (e_int)) (e_int))) (ss_one (s_expr (e_mth PySem.F.slot_list_extend PySem.F.type_list_extend (m_extend) (v_ 4) (a_cons (e_lc (own := [("move", 7)]) (is := [7]) rfl nd_all_sets (i_seq rfl (e_sl (v_ 1) (o_some (v_ 6)) (o_none))) (blkOk_by (N := N_all_sets) (sc := defScope s_all_sets) (by decide +kernel)) (by decide) (fun _ _ _ _ _ => g_name nd_all_sets rfl (by first | exact Or.inl rfl | exact Or.inr rfl)) (fun _ _ _ _ _ => ts_nil) (fun _ _ _ _ _ => e_tup (a_star (v_ 5) (a_cons (v_ 7) (a_nil))))) (a_nil))))))) (ss_frz 4 (ss_cons (s_expr (e_mth PySem.F.slot_list_extend PySem.F.type_list_extend (m_extend) (v_ 2) (a_cons (v_ 4) (a_nil)))) (ss_one (s_set (i := 3) nd_all_sets rfl (by first | exact Or.inl rfl | exact Or.inr rfl) (v_ 4)))))))) (ss_frz 2 (ss_one (s_ret (v_ 2))))))
theorem ok_all_sets (hy : Fs K mg) : FnG P w K (tb K) mg base (L2.CX P w) 1 (He.fAd K ("all_sets", none)) [] G_all_sets := by
  obtain ⟨fd, F⟩ := hy.d_all_sets
  exact fn_G (dl := []) (dd := []) F sc_all_sets (F.bindsN fun _ _ _ _ _ _ us hl => match us, hl with | [_], _ => rfl) .nil (fun _ _ => rfl) fun cdv A outer s H E hr => body_all_sets hy hr
abbrev N_parted : List Str := ["board", "good", "bad", "some"]
theorem nd_parted : (N_parted).Nodup := by decide +kernel
theorem sc_parted : FnScope N_parted (["board"]) (defScope s_parted) := ⟨rfl, rfl, rfl, by decide +kernel, rfl, by decide +kernel, by decide +kernel⟩
theorem body_parted (hy : Fs K mg) {f : Addr} {cdv : Value} {A : Around} {outer : List Env} {s : Shared} {H : Hp} {E : XK} (hr : Room 4 (A.deeper (envOfC "parted" (defScope s_parted) s.heap.objs.size f cdv))) :
    PSs (cxOf (L2.CX P w) P w K mg base N_parted "parted" (defScope s_parted) f cdv A outer s H E) (defBody s_parted) (tS K (tb K) (WK E) dS_parted) := by
  have px : ∀ σ, PassesAt (L2.CX P w) (cxOf (L2.CX P w) P w K mg base N_parted "parted" (defScope s_parted) f cdv A outer s H E) σ (WE (WK E) σ) := fun σ => passAt (takes_of rfl rfl rfl rfl) σ
  have po : PassesOwn (model P w) (cxOf (L2.CX P w) P w K mg base N_parted "parted" (defScope s_parted) f cdv A outer s H E).A (cxOf (L2.CX P w) P w K mg base N_parted "parted" (defScope s_parted) f cdv A outer s H E).env (cxOf (L2.CX P w) P w K mg base N_parted "parted" (defScope s_parted) f cdv A outer s H E).xe := passes_of rfl
  exact ss_cons (s_par2 (i := 1) (j := 2) rfl nd_parted rfl rfl (by decide) rfl rfl (a_cons (e_lstL (a_nil)) (a_cons (e_lstL (a_nil)) (a_nil))) (by with_unfolding_all rfl)) (ss_cons (s_for (is := [3]) po rfl (i_seq rfl (e_call (FnG.mono (ok_all_sets hy) (by decide)) hr rfl hy.m_all_sets hy.k_all_sets px (a_cons (v_ 0) (a_nil)))) (g_name nd_parted rfl (by first | exact Or.inl rfl | exact Or.inr rfl)) (ss_one (s_if (t_val (e_call (FnG.mono (ok_wins hy) (by decide)) hr rfl hy.m_wins hy.k_wins px (a_cons (v_ 0) (a_cons (v_ 3) (a_nil))))) (ss_one (s_expr (e_mth PySem.F.slot_list_append PySem.F.type_list_append (m_append) (v_ 1) (a_cons (v_ 3) (a_nil))))) (ss_one (s_expr (e_mth PySem.F.slot_list_append PySem.F.type_list_append (m_append) (v_ 2) (a_cons (v_ 3) (a_nil)))))))) (ss_frz 1 (ss_frz 2 (ss_one (s_ret (e_tup (a_cons (v_ 1) (a_cons (v_ 2) (a_nil)))))))))
theorem ok_parted (hy : Fs K mg) : FnG P w K (tb K) mg base (L2.CX P w) 5 (He.fAd K ("parted", none)) [] G_parted := by
  obtain ⟨fd, F⟩ := hy.d_parted
  exact fn_G (dl := []) (dd := []) F sc_parted (F.bindsN fun _ _ _ _ _ _ us hl => match us, hl with | [_], _ => rfl) .nil (fun _ _ => rfl) fun cdv A outer s H E hr => body_parted hy hr
abbrev N_needed : List Str := ["board", "good", "move", "some"]
theorem nd_needed : (N_needed).Nodup := by decide +kernel
theorem sc_needed : FnScope N_needed (["board"]) (defScope s_needed) := ⟨rfl, rfl, rfl, by decide +kernel, rfl, by decide +kernel, by decide +kernel⟩
theorem body_needed (hy : Fs K mg) {f : Addr} {cdv : Value} {A : Around} {outer : List Env} {s : Shared} {H : Hp} {E : XK} (hr : Room 5 (A.deeper (envOfC "needed" (defScope s_needed) s.heap.objs.size f cdv))) :
    PSs (cxOf (L2.CX P w) P w K mg base N_needed "needed" (defScope s_needed) f cdv A outer s H E) (defBody s_needed) (tS K (tb K) (WK E) dS_needed) := by
  have px : ∀ σ, PassesAt (L2.CX P w) (cxOf (L2.CX P w) P w K mg base N_needed "needed" (defScope s_needed) f cdv A outer s H E) σ (WE (WK E) σ) := fun σ => passAt (takes_of rfl rfl rfl rfl) σ
  have po : PassesOwn (model P w) (cxOf (L2.CX P w) P w K mg base N_needed "needed" (defScope s_needed) f cdv A outer s H E).A (cxOf (L2.CX P w) P w K mg base N_needed "needed" (defScope s_needed) f cdv A outer s H E).env (cxOf (L2.CX P w) P w K mg base N_needed "needed" (defScope s_needed) f cdv A outer s H E).xe := passes_of rfl
  exact ss_cons (s_expr (e_call (FnG.mono (ok_check_board hy) (by decide)) hr rfl hy.m_check_board hy.k_check_board px (a_cons (v_ 0) (a_nil)))) (ss_cons (s_set (i := 1) nd_needed rfl (by first | exact Or.inl rfl | exact Or.inr rfl) (e_ix (hu_of hr) (e_call (FnG.mono (ok_parted hy) (by decide)) hr rfl hy.m_parted hy.k_parted px (a_cons (v_ 0) (a_nil))) (e_int))) (ss_one (s_ret (e_lc (own := [("move", 2)]) (is := [2]) rfl nd_needed (i_seq rfl (e_fld hy.f_fees (v_ 0))) (blkOk_by (N := N_needed) (sc := defScope s_needed) (by decide +kernel)) (by decide) (fun _ _ _ _ _ => g_name nd_needed rfl (by first | exact Or.inl rfl | exact Or.inr rfl)) (fun _ _ _ _ _ => ts_one (t_val (e_all rfl rfl hy.n_all (a_cons (e_lc (own := [("some", 3)]) (is := [3]) rfl nd_needed (i_seq rfl (v_ 1)) (blkOk_by (by kernel_rfl)) (by decide) (fun _ _ _ _ _ => g_name nd_needed rfl (by first | exact Or.inl rfl | exact Or.inr rfl)) (fun _ _ _ _ _ => ts_nil) (fun _ _ _ _ _ => e_in hr (v_ 2) (v_ 3))) (a_nil))))) (fun _ _ _ _ _ => v_ 2)))))
theorem ok_needed (hy : Fs K mg) : FnG P w K (tb K) mg base (L2.CX P w) 6 (He.fAd K ("needed", none)) [] G_needed := by
  obtain ⟨fd, F⟩ := hy.d_needed
  exact fn_G (dl := []) (dd := []) F sc_needed (F.bindsN fun _ _ _ _ _ _ us hl => match us, hl with | [_], _ => rfl) .nil (fun _ _ => rfl) fun cdv A outer s H E hr => body_needed hy hr
abbrev N__law_one_right : List Str := ["_law_state", "_law_drawn_here", "_law_board_here", "_law_good", "_law_some", "_law_due", "_law_move", "_law_less", "_law_one"]
theorem nd__law_one_right : (N__law_one_right).Nodup := by decide +kernel
theorem sc__law_one_right : FnScope N__law_one_right (["_law_state"]) (defScope s__law_one_right) := ⟨rfl, rfl, rfl, by decide +kernel, rfl, by decide +kernel, by decide +kernel⟩
def L__law_one_right_0 : DS := sSeq (sSet 7 (dLc (iSeq (dVar 4)) (tgN 8) (tCmp .ne (dVar 8) (dVar 6)) (dVar 8) [8] false)) (sIf (tCmp .notN (dIx (dCallG G__law_far (dCons (dVar 1) (dCons (dVar 7) (dNil)))) (dIx (dVar 1) (dCon (.int 1)))) (dCon .non)) (sExpr (dMth mAppend (dVar 5) (dCons (dVar 6) (dNil)))) (sPass))
def L__law_one_right_1 : DS := sIf (tCmp .isN (dIx (dCallG G__law_far (dCons (dVar 1) (dCons (dVar 4) (dNil)))) (dIx (dVar 1) (dCon (.int 1)))) (dCon .non)) (sIf (tNot (vT (dCallG G__law_refused (dCons (dVar 2) (dCons (dVar 4) (dNil)))))) (sRet (dCon (.bl false))) (sPass)) (sSeq (sExpr (dMth mAppend (dVar 3) (dCons (dVar 4) (dNil)))) (sSeq (sSet 5 (dLstL (dNil))) (sSeq (forS (iSeq (dVar 4)) (tgN 6) (L__law_one_right_0)) (sSeq (sFrz 5) (sIf (tCmp .ne (dCallG G_needless (dCons (dVar 2) (dCons (dVar 4) (dNil)))) (dVar 5)) (sRet (dCon (.bl false))) (sPass))))))
def dS__law_one_right : DS := sSeq (sSet 1 (dCallG G__law_drawn (dCons (dVar 0) (dCons (dCon (.int 4)) (dNil))))) (sSeq (sPar [2, 3] (dCons (dCallG G__law_board (dCons (dVar 1) (dNil))) (dCons (dLstL (dNil)) (dNil)))) (sSeq (forS (iSeq (dCallG G__law_sets (dCons (dVar 1) (dNil)))) (tgN 4) (L__law_one_right_1)) (sSeq (sFrz 3) (sRet (tV (tCmp .eq (dCallG G_needed (dCons (dVar 2) (dNil))) (dLc (iSeq (dIx (dVar 1) (dCon (.int 2)))) (tgN 6) (vT (dB bAll (dCons (dLc (iSeq (dVar 3)) (tgN 4) (tYs) (tV (tCmp .inn (dVar 6) (dVar 4))) [4] false) (dNil)))) (dVar 6) [6] false)))))))
def G__law_one_right : Gn := posG (fnD 1 9 dS__law_one_right) []
theorem body__law_one_right (hy : Fs K mg) {f : Addr} {cdv : Value} {A : Around} {outer : List Env} {s : Shared} {H : Hp} {E : XK} (hr : Room 6 (A.deeper (envOfC "_law_one_right" (defScope s__law_one_right) s.heap.objs.size f cdv))) :
    PSs (cxOf (L2.CX P w) P w K mg base N__law_one_right "_law_one_right" (defScope s__law_one_right) f cdv A outer s H E) (defBody s__law_one_right) (tS K (tb K) (WK E) dS__law_one_right) := by
  have px : ∀ σ, PassesAt (L2.CX P w) (cxOf (L2.CX P w) P w K mg base N__law_one_right "_law_one_right" (defScope s__law_one_right) f cdv A outer s H E) σ (WE (WK E) σ) := fun σ => passAt (takes_of rfl rfl rfl rfl) σ
  have po : PassesOwn (model P w) (cxOf (L2.CX P w) P w K mg base N__law_one_right "_law_one_right" (defScope s__law_one_right) f cdv A outer s H E).A (cxOf (L2.CX P w) P w K mg base N__law_one_right "_law_one_right" (defScope s__law_one_right) f cdv A outer s H E).env (cxOf (L2.CX P w) P w K mg base N__law_one_right "_law_one_right" (defScope s__law_one_right) f cdv A outer s H E).xe := passes_of rfl
  exact ss_cons (s_set (i := 1) nd__law_one_right rfl (by first | exact Or.inl rfl | exact Or.inr rfl) (e_call (FnG.mono (ok__law_drawn hy) (by decide)) hr rfl hy.m__law_drawn hy.k__law_drawn px (a_cons (v_ 0) (a_cons (e_int) (a_nil))))) (ss_cons (s_parU (is := [2, 3]) rfl (a_cons (e_call (FnG.mono (ok__law_board hy) (by decide)) hr rfl hy.m__law_board hy.k__law_board px (a_cons (v_ 1) (a_nil))) (a_cons (e_lstL (a_nil)) (a_nil))) (v_cons nd__law_one_right rfl (by first | exact Or.inl rfl | exact Or.inr rfl) (v_cons nd__law_one_right rfl (by first | exact Or.inl rfl | exact Or.inr rfl) (v_nil))) (by decide) (hi := by decide)) (ss_cons (s_for (is := [4]) po rfl (i_seq rfl (e_call (FnG.mono (ok__law_sets hy) (by decide)) hr rfl hy.m__law_sets hy.k__law_sets px (a_cons (v_ 1) (a_nil)))) (g_name nd__law_one_right rfl (by first | exact Or.inl rfl | exact Or.inr rfl)) (ss_one (s_if (t_isN (e_ix (hu_of hr) (e_call (FnG.mono (ok__law_far hy) (by decide)) hr rfl hy.m__law_far hy.k__law_far px (a_cons (v_ 1) (a_cons (v_ 4) (a_nil)))) (e_ix (hu_of hr) (v_ 1) (e_int))) (e_non)) (ss_one (s_if (t_not (t_val (e_call (FnG.mono (ok__law_refused hy) (by decide)) hr rfl hy.m__law_refused hy.k__law_refused px (a_cons (v_ 2) (a_cons (v_ 4) (a_nil)))))) (ss_one (s_ret (e_bl))) (ss_nil))) (ss_cons (s_expr (e_mth PySem.F.slot_list_append PySem.F.type_list_append (m_append) (v_ 3) (a_cons (v_ 4) (a_nil)))) (ss_cons (s_set (i := 5) nd__law_one_right rfl (by first | exact Or.inl rfl | exact Or.inr rfl) (e_lstL (a_nil))) (ss_cons (s_for (is := [6]) po rfl (i_seq rfl (v_ 4)) (g_name nd__law_one_right rfl (by first | exact Or.inl rfl | exact Or.inr rfl)) (ss_cons (s_setLc (i := 7) (own := [("_law_one", 8)]) (is := [8]) rfl nd__law_one_right rfl rfl (sw_true rfl rfl rfl (by decide +kernel)) (i_seq rfl (v_ 4)) (blkOk_by (N := N__law_one_right) (sc := defScope s__law_one_right) (by decide +kernel)) (by decide) (fun _ _ _ _ _ => g_name nd__law_one_right rfl (by first | exact Or.inl rfl | exact Or.inr rfl)) (fun _ _ _ _ _ => ts_one (t_ne hr (v_ 8) (v_ 6))) (fun _ _ _ _ _ => v_ 8)) (ss_one (s_if (t_notN (e_ix (hu_of hr) (e_call (FnG.mono (ok__law_far hy) (by decide)) hr rfl hy.m__law_far hy.k__law_far px (a_cons (v_ 1) (a_cons (v_ 7) (a_nil)))) (e_ix (hu_of hr) (v_ 1) (e_int))) (e_non)) (ss_one (s_expr (e_mth PySem.F.slot_list_append PySem.F.type_list_append (m_append) (v_ 5) (a_cons (v_ 6) (a_nil))))) (ss_nil))))) (ss_frz 5 (ss_one (s_if (t_ne hr (e_call (FnG.mono (ok_needless hy) (by decide)) hr rfl hy.m_needless hy.k_needless px (a_cons (v_ 2) (a_cons (v_ 4) (a_nil)))) (v_ 5)) (ss_one (s_ret (e_bl))) (ss_nil)))))))))) (ss_frz 3 (ss_one (s_ret (e_eq hr (e_call (FnG.mono (ok_needed hy) (by decide)) hr rfl hy.m_needed hy.k_needed px (a_cons (v_ 2) (a_nil))) (e_lc (own := [("_law_move", 6)]) (is := [6]) rfl nd__law_one_right (i_seq rfl (e_ix (hu_of hr) (v_ 1) (e_int))) (blkOk_by (N := N__law_one_right) (sc := defScope s__law_one_right) (by decide +kernel)) (by decide) (fun _ _ _ _ _ => g_name nd__law_one_right rfl (by first | exact Or.inl rfl | exact Or.inr rfl)) (fun _ _ _ _ _ => ts_one (t_val (e_all rfl rfl hy.n_all (a_cons (e_lc (own := [("_law_some", 4)]) (is := [4]) rfl nd__law_one_right (i_seq rfl (v_ 3)) (blkOk_by (by kernel_rfl)) (by decide) (fun _ _ _ _ _ => g_name nd__law_one_right rfl (by first | exact Or.inl rfl | exact Or.inr rfl)) (fun _ _ _ _ _ => ts_nil) (fun _ _ _ _ _ => e_in hr (v_ 6) (v_ 4))) (a_nil))))) (fun _ _ _ _ _ => v_ 6))))))))
theorem ok__law_one_right (hy : Fs K mg) : FnG P w K (tb K) mg base (L2.CX P w) 7 (He.fAd K ("_law_one_right", none)) [] G__law_one_right := by
  obtain ⟨fd, F⟩ := hy.d__law_one_right
  exact fn_G (dl := []) (dd := []) F sc__law_one_right (F.bindsN fun _ _ _ _ _ _ us hl => match us, hl with | [_], _ => rfl) .nil (fun _ _ => rfl) fun cdv A outer s H E hr => body__law_one_right hy hr
abbrev N_law : List Str := ["_law_script", "_law_by"]
theorem nd_law : (N_law).Nodup := by decide +kernel
theorem sc_law : FnScope N_law (["_law_script"]) (defScope s_law) := ⟨rfl, rfl, rfl, by decide +kernel, rfl, by decide +kernel, by decide +kernel⟩
def L_law_0 : DS := sIf (tNot (vT (dCallG G__law_one_right (dCons (dLstL (dCons (dVar 0) (dCons (dVar 1) (dCons (dCon (.int 0)) (dNil))))) (dNil))))) (sRet (dCon (.bl false))) (sPass)
def dS_law : DS := sSeq (forS (iRange3 (dCons (dCon (.int 0)) (dCons (dB bMax2 (dCons (dCon (.int 1)) (dCons (dB bMin2 (dCons (dCon (.int 24)) (dCons (dB bLen (dCons (dVar 0) (dNil))) (dNil)))) (dNil)))) (dCons (dCon (.int 3)) (dNil))))) (tgN 1) (L_law_0)) (sRet (dCon (.bl true)))
def G_law : Gn := posG (fnD 1 2 dS_law) []
theorem body_law (hy : Fs K mg) {f : Addr} {cdv : Value} {A : Around} {outer : List Env} {s : Shared} {H : Hp} {E : XK} (hr : Room 7 (A.deeper (envOfC "law" (defScope s_law) s.heap.objs.size f cdv))) :
    PSs (cxOf (L2.CX P w) P w K mg base N_law "law" (defScope s_law) f cdv A outer s H E) (defBody s_law) (tS K (tb K) (WK E) dS_law) := by
  have px : ∀ σ, PassesAt (L2.CX P w) (cxOf (L2.CX P w) P w K mg base N_law "law" (defScope s_law) f cdv A outer s H E) σ (WE (WK E) σ) := fun σ => passAt (takes_of rfl rfl rfl rfl) σ
  have po : PassesOwn (model P w) (cxOf (L2.CX P w) P w K mg base N_law "law" (defScope s_law) f cdv A outer s H E).A (cxOf (L2.CX P w) P w K mg base N_law "law" (defScope s_law) f cdv A outer s H E).env (cxOf (L2.CX P w) P w K mg base N_law "law" (defScope s_law) f cdv A outer s H E).xe := passes_of rfl
  exact ss_cons (s_for (is := [1]) po rfl (i_range3 (by rfl) hy.n_range (a_cons (e_int) (a_cons (e_max2 rfl (by rfl) hy.n_max (a_cons (e_int) (a_cons (e_min2 rfl (by rfl) hy.n_min (a_cons (e_int) (a_cons (e_len hr rfl hy.n_len (a_cons (v_ 0) (a_nil))) (a_nil)))) (a_nil)))) (a_cons (e_int) (a_nil))))) (g_name nd_law rfl (by first | exact Or.inl rfl | exact Or.inr rfl)) (ss_one (s_if (t_not (t_val (e_call (FnG.mono (ok__law_one_right hy) (by decide)) hr rfl hy.m__law_one_right hy.k__law_one_right px (a_cons (e_lstL (a_cons (v_ 0) (a_cons (v_ 1) (a_cons (e_int) (a_nil))))) (a_nil))))) (ss_one (s_ret (e_bl))) (ss_nil)))) (ss_one (s_ret (e_bl)))
def Plain : Prop := ∀ ns : List Int, ns.length ≤ 63 → ∃ st, fnD 1 N_law.length dS_law [.d (.arr ns)] [] = .ok (.d (.bl true)) st
end Lw
/-! LQ_k12 -/
set_option maxHeartbeats 0
/-! one board -/
namespace Lw
open PySem Fb Pg Lb
section
variable {b : Bd} (ok : OkB b) {st : Sto} (hw : Wf st)
include ok hw
theorem refused_ok {s : List Mv} (hs : isSt b s = true) (hn : s.length ≤ 1000) (h : wins b s = false) : G__law_refused [.d (eB b), .d (eS s)] [] st = .ok (.d (.bl true)) st := by
  have h1 := G_needless_exc ok hw hs hn h
  have h2 : sExpr (dCallG G_needless (dCons (dVar 0) (dCons (dVar 1) (dNil)))) [some (.d (eB b)), some (.d (eS s))] st = .exc ⟨9, []⟩ [some (.d (eB b)), some (.d (eS s))] st := by
    simp only [evs, h1, bindE_exc]
  have h3 := sTry_exc (q := sRet (dCon (.bl true))) (m := x_NotWinning) h2 rfl
  have h4 : calmR ((sRet (dCon (.bl true))) [some (.d (eB b)), some (.d (eS s))] st) = .rt (.d (.bl true)) st := rfl
  rw [h4] at h3
  simp only [G__law_refused, dS__law_refused, evs, Nat.reduceSub, List.reduceReplicate, h3, trunc_self hw]
end
section
variable {k len : Nat} {ι : Type} {B : ι → Sto} (dw : Dw G__law_next k B len) {b : Bd} (ok : OkB b)
include dw
theorem lenJ (i : ι) (c : Option Cel) (j : Sto) : (B i ++ c :: j).length = len + (1 + j.length) := by
  rw [List.length_append, dw.hl, List.length_cons, Nat.add_comm 1]
include ok
theorem due_turn (i : ι) {s : List Mv} (hs : SOk s) (hsl : s.length ≤ 1000) {m : Mv} (hm : m ∈ s) (g : List D) {j : Sto} (hj : j.all plainC = true) (due : List Mv) (hd : due.length ≤ 1000) (x0 x2 x3 y6 y7 y8 : Option Val) :
    Nx (forStep (tgN 6) L__law_one_right_0 (eM m) [x0, some (.d (ePl b)), x2, x3, some (.d (eS s)), some (.cell (len + (1 + j.length))), y6, y7, y8] (B i ++ some (.lst g) :: (j ++ [some (.lst (due.map eM))])))
      fun e s' => ∃ z6 z7 z8, e = [x0, some (.d (ePl b)), x2, x3, some (.d (eS s)), some (.cell (len + (1 + j.length))), z6, z7, z8] ∧ s' = B i ++ some (.lst g) :: (j ++ [some (.lst ((due ++ [m].filter fun m => wins b (lessOf s m)).map eM))]) := by
  have w : Wf (B i ++ some (.lst g) :: (j ++ [some (.lst (due.map eM))])) := Wf.plain (dw.wf i) (by rw [List.all_cons, List.all_append, hj]; rfl)
  have lc : dLc (iSeq (dVar 4)) (tgN 8) (tCmp .ne (dVar 8) (dVar 6)) (dVar 8) [8] false [x0, some (.d (ePl b)), x2, x3, some (.d (eS s)), some (.cell (len + (1 + j.length))), some (.d (eM m)), y7, y8] (B i ++ some (.lst g) :: (j ++ [some (.lst (due.map eM))])) = .ok (.d (.lst ((lessOf s m).map eM))) (B i ++ some (.lst g) :: (j ++ [some (.lst (due.map eM))])) :=
    ev_dLc (enc := eM) (E := fun o => [x0, some (.d (ePl b)), x2, x3, some (.d (eS s)), some (.cell (len + (1 + j.length))), some (.d (eM m)), y7, some (.d (eM o))]) (p := fun o => !decide (o = m)) s eM (by simp only [evs, src_eS]) w (by omega) (fun o _ => by simp only [evs]) (fun o ho s2 _ => by simp only [evs, ne_mv (hs o ho) (hs m hm)]) (fun o _ _ s2 _ => by simp only [evs])
  have hless : SOk (lessOf s m) := fun o ho => hs o (List.mem_filter.mp ho).1
  have hfar := L_farX ok (.lst hless) w
  have e5 : isTg isL (.cell (len + (1 + j.length))) (B i ++ some (.lst g) :: (j ++ [some (.lst (due.map eM))])) = .ok () (B i ++ some (.lst g) :: (j ++ [some (.lst (due.map eM))])) := ev_isL (dw.getL ..)
  have e6 : mAppend (.cell (len + (1 + j.length))) [.d (eM m)] (B i ++ some (.lst g) :: (j ++ [some (.lst (due.map eM))])) = .ok (.d .non) (B i ++ some (.lst g) :: (j ++ [some (.lst ((due ++ [m]).map eM))])) := by
    rw [ev_append (l := due.map eM) _ (dw.getL ..) (by rw [List.length_map]; omega), dw.setL, List.map_append]
    rfl
  cases q : wins b (lessOf s m) with
  | false =>
    simp only [forStep, L__law_one_right_0, evs, lc, hfar, ix_pl1, ix_start ok, isNon_eO, wins_look ok, q, Bool.not_false, Bool.not_true]
    exact Nx.eq rfl ⟨_, _, _, rfl, by simp [q]⟩
  | true =>
    simp only [forStep, L__law_one_right_0, evs, lc, hfar, ix_pl1, ix_start ok, isNon_eO, wins_look ok, q, Bool.not_false, Bool.not_true, e5, e6]
    exact Nx.eq rfl ⟨_, _, _, rfl, by simp [q]⟩
theorem due_loop (i : ι) {s : List Mv} (hs : SOk s) (hsl : s.length ≤ 1000) (g : List D) {j : Sto} (hj : j.all plainC = true) (x0 x2 x3 y6 y7 y8 : Option Val) :
    Nx (forL (tgN 6) L__law_one_right_0 (s.map eM) [x0, some (.d (ePl b)), x2, x3, some (.d (eS s)), some (.cell (len + (1 + j.length))), y6, y7, y8] (B i ++ some (.lst g) :: (j ++ [some (.lst [])])))
      fun e s' => ∃ z6 z7 z8, e = [x0, some (.d (ePl b)), x2, x3, some (.d (eS s)), some (.cell (len + (1 + j.length))), z6, z7, z8] ∧ s' = B i ++ some (.lst g) :: (j ++ [some (.lst ((needlessOf b s).map eM))]) := by
  refine nx_for0 (I := fun pr e s' => ∃ z6 z7 z8, e = [x0, some (.d (ePl b)), x2, x3, some (.d (eS s)), some (.cell (len + (1 + j.length))), z6, z7, z8] ∧ s' = B i ++ some (.lst g) :: (j ++ [some (.lst ((pr.filter fun m => wins b (lessOf s m)).map eM))])) s ⟨_, _, _, rfl, rfl⟩ ?_
  rintro pr m post e s' hp ⟨z6, z7, z8, rfl, rfl⟩
  have hpl : pr.length ≤ 1000 := by have := congrArg List.length hp; rw [List.length_append] at this; omega
  have hfl := List.length_filter_le (fun m => wins b (lessOf s m)) pr
  refine (due_turn dw ok i hs hsl (m := m) (by rw [hp]; simp) g hj (pr.filter fun m => wins b (lessOf s m)) (by omega) x0 x2 x3 z6 z7 z8).mono ?_
  rintro e s' ⟨z6, z7, z8, rfl, rfl⟩
  exact ⟨z6, z7, z8, rfl, by rw [List.filter_append]⟩
theorem set_turn (i : ι) {s : List Mv} (hs : s ∈ allSets b) (g : List (List Mv)) (hg : g.length ≤ 5000) {j : Sto} (hj : j.all plainC = true) (x0 y4 y5 y6 y7 y8 : Option Val) :
    Nx (forStep (tgN 4) L__law_one_right_1 (eS s) [x0, some (.d (ePl b)), some (.d (eB b)), some (.cell len), y4, y5, y6, y7, y8] (B i ++ some (.lst (g.map eS)) :: j))
      fun e s' => ∃ j' z4 z5 z6 z7 z8, j'.all plainC = true ∧ e = [x0, some (.d (ePl b)), some (.d (eB b)), some (.cell len), z4, z5, z6, z7, z8] ∧ s' = B i ++ some (.lst ((g ++ [s].filter (wins b)).map eS)) :: j' := by
  have sub := allSets_sub ok s hs
  have hst := allSets_st ok hs
  have so := ok.sok sub.1
  have w : Wf (B i ++ some (.lst (g.map eS)) :: j) := Wf.plain (dw.wf i) (by rw [List.all_cons, hj]; rfl)
  have hfar := L_far ok so w
  cases q : wins b s with
  | false =>
    have hrf := refused_ok ok w hst (by omega) q
    simp only [forStep, L__law_one_right_1, evs, hfar, ix_pl1, ix_start ok, isNon_eO, wins_look ok, q, Bool.not_false, Bool.not_true, hrf]
    exact Nx.eq rfl ⟨j, _, _, _, _, _, hj, rfl, by simp [q]⟩
  | true =>
    have e5 : isTg isL (.cell len) (B i ++ some (.lst (g.map eS)) :: j) = .ok () (B i ++ some (.lst (g.map eS)) :: j) := ev_isL (dw.get ..)
    have e6 : mAppend (.cell len) [.d (eS s)] (B i ++ some (.lst (g.map eS)) :: j) = .ok (.d .non) (B i ++ some (.lst ((g ++ [s]).map eS)) :: j) := by
      rw [ev_append (l := g.map eS) _ (dw.get ..) (by rw [List.length_map]; omega), dw.set, List.map_append]
      rfl
    have e7 : B i ++ some (.lst ((g ++ [s]).map eS)) :: j ++ [some (.lst [])] = B i ++ some (.lst ((g ++ [s]).map eS)) :: (j ++ [some (.lst [])]) := by simp
    obtain ⟨e, s', hl, z6, z7, z8, rfl, rfl⟩ := due_loop dw ok i so (by omega) ((g ++ [s]).map eS) hj x0 (some (.d (eB b))) (some (.cell len)) y6 y7 y8
    have hz : ∀ e, frzV e 5 (len + (1 + j.length)) (B i ++ some (.lst ((g ++ [s]).map eS)) :: (j ++ [some (.lst ((needlessOf b s).map eM))])) = .nx (e.set 5 (some (.d (.lst ((needlessOf b s).map eM))))) (B i ++ some (.lst ((g ++ [s]).map eS)) :: (j ++ [none])) := fun e => by
      rw [frzV_lst _ _ _ _ _ (dw.getL ..), dw.setL]
    have w2 : Wf (B i ++ some (.lst ((g ++ [s]).map eS)) :: (j ++ [none])) := Wf.plain (dw.wf i) (by rw [List.all_cons, List.all_append, hj]; rfl)
    have hnl := G_needless_ok ok w2 hst (by omega) q
    have hne := fun st => ne_moves (l := needlessOf b s) (fun m hm => so m (List.mem_filter.mp hm).1) st
    simp only [forStep, L__law_one_right_1, evs, hfar, ix_pl1, ix_start ok, isNon_eO, wins_look ok, q, Bool.not_false, Bool.not_true, e5, e6, ev_lstL, ev_newCell, List.length_nil, lenJ dw, e7, src_eS, hl, hz, hnl, hne]
    exact Nx.eq rfl ⟨j ++ [none], _, _, _, _, _, by rw [List.all_append, hj]; rfl, rfl, by simp [q]⟩
end
section
variable {k len : Nat} {ι : Type} {B : ι → Sto} (dw : Dw G__law_next k B len)
include dw
theorem one_right (i : ι) : ∃ i', G__law_one_right [.cell k] [] (B i) = .ok (.d (.bl true)) (B i') := by
  obtain ⟨b, i1, ⟨ok, h3, h4⟩, hdr⟩ := L_drawn dw i (most := 4) (by decide) (by decide)
  have hbd := L_board ok (dw.wf i1) h3
  have sl := sets_small ok
  have w1 : Wf (B i1 ++ [some (.lst [])]) := Wf.plain (dw.wf i1) rfl
  have hsets := L_sets ok w1
  have loop := nx_for0 (g := tgN 4) (p := L__law_one_right_1) (enc := eS) (I := fun pr e s' => ∃ j z4 z5 z6 z7 z8, j.all plainC = true ∧ e = [some (.cell k), some (.d (ePl b)), some (.d (eB b)), some (.cell len), z4, z5, z6, z7, z8] ∧ s' = B i1 ++ some (.lst ((pr.filter (wins b)).map eS)) :: j) (allSets b)
    (e := [some (.cell k), some (.d (ePl b)), some (.d (eB b)), some (.cell len), none, none, none, none, none]) (s := B i1 ++ [some (.lst [])]) ⟨[], none, none, none, none, none, rfl, rfl, rfl⟩ (by
      rintro pr s post e s' hp ⟨j, z4, z5, z6, z7, z8, hj, rfl, rfl⟩
      have hpl : pr.length ≤ 5000 := by have := congrArg List.length hp; rw [List.length_append] at this; omega
      have hfl := List.length_filter_le (wins b) pr
      refine (set_turn dw ok i1 (s := s) (by rw [hp]; simp) (pr.filter (wins b)) (by omega) hj (some (.cell k)) z4 z5 z6 z7 z8).mono ?_
      rintro e s' ⟨j', z4, z5, z6, z7, z8, hj', rfl, rfl⟩
      exact ⟨j', z4, z5, z6, z7, z8, hj', rfl, by rw [List.filter_append]⟩)
  obtain ⟨e, s', hl, j, z4, z5, z6, z7, z8, hj, rfl, rfl⟩ := loop
  have eg : (allSets b).filter (wins b) = goodSets b := rfl
  rw [eg] at hl
  have hz : ∀ e, frzV e 3 len (B i1 ++ some (.lst ((goodSets b).map eS)) :: j) = .nx (e.set 3 (some (.d (eSs (goodSets b))))) (B i1 ++ none :: j) := fun e => by
    rw [frzV_lst _ _ _ _ _ (dw.get ..), dw.set]
    rfl
  have w2 : Wf (B i1 ++ none :: j) := Wf.plain (dw.wf i1) (by rw [List.all_cons, hj]; rfl)
  have hnd := G_needed_ok ok w2
  have hmv : SOk b.moves := ok.sok fun m h => h
  have hgl : (goodSets b).length ≤ 1000000 := by have := List.length_filter_le (wins b) (allSets b); show ((allSets b).filter _).length ≤ _; omega
  have hsr : ∀ st, srcOf (.d (eFe b.fees)) st = .ok (.its (b.moves.map eM)) st := fun st => by
    show Rs.ok (Src.its ((b.fees.map fun p => (eM p.1, D.int p.2)).map (·.1))) st = _
    unfold Bd.moves
    rw [List.map_map, List.map_map]
    rfl
  have lc : dLc (iSeq (dIx (dVar 1) (dCon (.int 2)))) (tgN 6) (vT (dB bAll (dCons (dLc (iSeq (dVar 3)) (tgN 4) (tYs) (tV (tCmp .inn (dVar 6) (dVar 4))) [4] false) (dNil)))) (dVar 6) [6] false [some (.cell k), some (.d (ePl b)), some (.d (eB b)), some (.d (eSs (goodSets b))), z4, z5, z6, z7, z8] (B i1 ++ none :: j) = .ok (.d (.lst ((neededOf b).map eM))) (B i1 ++ none :: j) :=
    ev_dLc (enc := eM) (E := fun m => [some (.cell k), some (.d (ePl b)), some (.d (eB b)), some (.d (eSs (goodSets b))), z4, z5, some (.d (eM m)), z7, z8]) (p := fun m => (goodSets b).all fun s => decide (m ∈ s)) b.moves eM (by simp only [ev_iSeq, ev_ix, ev_var, List.getElem?_cons_succ, List.getElem?_cons_zero, optV_some, bind_ok, ev_bnd, ev_con, ev_opD, ev_snap, ev_ret, ix_pl2, hsr]) w2 (by have := ok.mvl; omega) (fun m _ => by simp only [evs]) (fun m hm s' w => by
      have inner : dLc (iSeq (dVar 3)) (tgN 4) (tYs) (tV (tCmp .inn (dVar 6) (dVar 4))) [4] false [some (.cell k), some (.d (ePl b)), some (.d (eB b)), some (.d (eSs (goodSets b))), z4, z5, some (.d (eM m)), z7, z8] s' = .ok (.d (.lst ((goodSets b).map fun s => .bl (decide (m ∈ s))))) s' := by
        rw [ev_dLc (enc := eS) (E := fun s => [some (.cell k), some (.d (ePl b)), some (.d (eB b)), some (.d (eSs (goodSets b))), some (.d (eS s)), z5, some (.d (eM m)), z7, z8]) (p := fun _ => true) (goodSets b) (fun s => .bl (decide (m ∈ s))) (by simp only [evs, src_eSs]) w hgl (fun s _ => by simp only [evs]) (fun s _ s2 _ => by simp only [evs]) (fun s hs _ s2 _ => by simp only [evs, in_eS (ok.sok (goodSets_sub ok s hs).1.1) (hmv m hm)]), filter_tt]
      have e4 : ∀ st, bAll [.d (.lst ((goodSets b).map fun s => .bl (decide (m ∈ s))))] st = .ok (.d (.bl ((goodSets b).all fun s => decide (m ∈ s)))) st := fun st => ev_all st (fun s => decide (m ∈ s)) (goodSets b)
      simp only [evs, inner, e4]) (fun m _ _ s' _ => by simp only [evs])
  have heq := fun st => eq_moves (l := neededOf b) (fun m hm => hmv m (List.mem_filter.mp hm).1) st
  refine ⟨i1, ?_⟩
  simp only [G__law_one_right, dS__law_one_right, evs, Nat.reduceSub, List.reduceReplicate, dw.hl, hdr, hbd, ev_lstL, ev_newCell, List.length_nil, hsets, hl, hz, hnd, lc, heq, dw.trunc]
end
end Lw
/-! LH_k12 -/
namespace Lw
open PySem PySem.Spec PyProof.Rows L2 Fb Pg Lb
variable {P : Program} {w : World} {K : PySem.W.Frag} {mg : Str → Option Value} {base : Heap}
theorem ex_at {K : PySem.W.Frag} (m : exL K = true) (i : Nat) {b : Bool} (h : (exB K)[i]? = some b) : b = true := List.all_eq_true.mp m b (List.mem_of_getElem? h)
theorem clsAll {K : PySem.W.Frag} (c : He.SaysD faL fnL K) : ∀ k C ns, k < 6 → (tb K).ct k = some (C, ns) → Cls K C := by
  intro k C ns hk e
  unfold tb at e
  simp only at e
  split at e
  · cases e
    exact He.cls_ok (c.fact 87 (f := .cls "Field") rfl)
  · cases e
    exact He.cls_ok (c.fact 89 (f := .cls "Board") rfl)
  · cases e
theorem facts {h : Heap} (X : K.In h) (G : h.Ns mainGlobals mg) (c : He.SaysD faL fnL K) (m : exL K = true) : Fs K mg := by
  have hc := c
  exact {
  d_is_integer := c.def_ 0 (d := dd_is_integer) rfl,
  m_is_integer := He.glo_ok X G (c.fact 0 (f := .glo "is_integer") rfl),
  k_is_integer := He.keep_ok (c.fact 1 (f := .keep "is_integer") rfl),
  d_is_move := c.def_ 1 (d := dd_is_move) rfl,
  m_is_move := He.glo_ok X G (c.fact 2 (f := .glo "is_move") rfl),
  k_is_move := He.keep_ok (c.fact 3 (f := .keep "is_move") rfl),
  d_are_prices := c.def_ 2 (d := dd_are_prices) rfl,
  m_are_prices := He.glo_ok X G (c.fact 4 (f := .glo "are_prices") rfl),
  k_are_prices := He.keep_ok (c.fact 5 (f := .keep "are_prices") rfl),
  d_is_field_of := c.def_ 3 (d := dd_is_field_of) rfl,
  m_is_field_of := He.glo_ok X G (c.fact 6 (f := .glo "is_field_of") rfl),
  k_is_field_of := He.keep_ok (c.fact 7 (f := .keep "is_field_of") rfl),
  d_is_name := c.def_ 4 (d := dd_is_name) rfl,
  m_is_name := He.glo_ok X G (c.fact 8 (f := .glo "is_name") rfl),
  k_is_name := He.keep_ok (c.fact 9 (f := .keep "is_name") rfl),
  d_Boardu__initu_ := c.def_ 5 (d := dd_Boardu__initu_) rfl,
  d_Fieldu__initu_ := c.def_ 6 (d := dd_Fieldu__initu_) rfl,
  d__law_field := c.def_ 7 (d := dd__law_field) rfl,
  m__law_field := He.glo_ok X G (c.fact 10 (f := .glo "_law_field") rfl),
  k__law_field := He.keep_ok (c.fact 11 (f := .keep "_law_field") rfl),
  d__law_board := c.def_ 8 (d := dd__law_board) rfl,
  m__law_board := He.glo_ok X G (c.fact 12 (f := .glo "_law_board") rfl),
  k__law_board := He.keep_ok (c.fact 13 (f := .keep "_law_board") rfl),
  d__law_cell_at := c.def_ 9 (d := dd__law_cell_at) rfl,
  m__law_cell_at := He.glo_ok X G (c.fact 14 (f := .glo "_law_cell_at") rfl),
  k__law_cell_at := He.keep_ok (c.fact 15 (f := .keep "_law_cell_at") rfl),
  d__law_draw := c.def_ 10 (d := dd__law_draw) rfl,
  m__law_draw := He.glo_ok X G (c.fact 16 (f := .glo "_law_draw") rfl),
  k__law_draw := He.keep_ok (c.fact 17 (f := .keep "_law_draw") rfl),
  d__law_number := c.def_ 11 (d := dd__law_number) rfl,
  m__law_number := He.glo_ok X G (c.fact 18 (f := .glo "_law_number") rfl),
  k__law_number := He.keep_ok (c.fact 19 (f := .keep "_law_number") rfl),
  d__law_next := c.def_ 12 (d := dd__law_next) rfl,
  m__law_next := He.glo_ok X G (c.fact 20 (f := .glo "_law_next") rfl),
  k__law_next := He.keep_ok (c.fact 21 (f := .keep "_law_next") rfl),
  d__law_pick := c.def_ 13 (d := dd__law_pick) rfl,
  m__law_pick := He.glo_ok X G (c.fact 22 (f := .glo "_law_pick") rfl),
  k__law_pick := He.keep_ok (c.fact 23 (f := .keep "_law_pick") rfl),
  d__law_drawn := c.def_ 14 (d := dd__law_drawn) rfl,
  m__law_drawn := He.glo_ok X G (c.fact 24 (f := .glo "_law_drawn") rfl),
  k__law_drawn := He.keep_ok (c.fact 25 (f := .keep "_law_drawn") rfl),
  d__law_ways := c.def_ 15 (d := dd__law_ways) rfl,
  m__law_ways := He.glo_ok X G (c.fact 26 (f := .glo "_law_ways") rfl),
  k__law_ways := He.keep_ok (c.fact 27 (f := .keep "_law_ways") rfl),
  d__law_far := c.def_ 16 (d := dd__law_far) rfl,
  m__law_far := He.glo_ok X G (c.fact 28 (f := .glo "_law_far") rfl),
  k__law_far := He.keep_ok (c.fact 29 (f := .keep "_law_far") rfl),
  d_check_board := c.def_ 17 (d := dd_check_board) rfl,
  m_check_board := He.glo_ok X G (c.fact 30 (f := .glo "check_board") rfl),
  k_check_board := He.keep_ok (c.fact 31 (f := .keep "check_board") rfl),
  d_is_set := c.def_ 18 (d := dd_is_set) rfl,
  m_is_set := He.glo_ok X G (c.fact 32 (f := .glo "is_set") rfl),
  k_is_set := He.keep_ok (c.fact 33 (f := .keep "is_set") rfl),
  d_check_set := c.def_ 19 (d := dd_check_set) rfl,
  m_check_set := He.glo_ok X G (c.fact 34 (f := .glo "check_set") rfl),
  k_check_set := He.keep_ok (c.fact 35 (f := .keep "check_set") rfl),
  d_ways := c.def_ 20 (d := dd_ways) rfl,
  m_ways := He.glo_ok X G (c.fact 36 (f := .glo "ways") rfl),
  k_ways := He.keep_ok (c.fact 37 (f := .keep "ways") rfl),
  d_is_won_at_once := c.def_ 21 (d := dd_is_won_at_once) rfl,
  m_is_won_at_once := He.glo_ok X G (c.fact 38 (f := .glo "is_won_at_once") rfl),
  k_is_won_at_once := He.keep_ok (c.fact 39 (f := .keep "is_won_at_once") rfl),
  d_leads_on := c.def_ 22 (d := dd_leads_on) rfl,
  m_leads_on := He.glo_ok X G (c.fact 40 (f := .glo "leads_on") rfl),
  k_leads_on := He.keep_ok (c.fact 41 (f := .keep "leads_on") rfl),
  d_distances_of := c.def_ 23 (d := dd_distances_of) rfl,
  m_distances_of := He.glo_ok X G (c.fact 42 (f := .glo "distances_of") rfl),
  k_distances_of := He.keep_ok (c.fact 43 (f := .keep "distances_of") rfl),
  d_wins := c.def_ 24 (d := dd_wins) rfl,
  m_wins := He.glo_ok X G (c.fact 44 (f := .glo "wins") rfl),
  k_wins := He.keep_ok (c.fact 45 (f := .keep "wins") rfl),
  d_needless := c.def_ 25 (d := dd_needless) rfl,
  m_needless := He.glo_ok X G (c.fact 46 (f := .glo "needless") rfl),
  k_needless := He.keep_ok (c.fact 47 (f := .keep "needless") rfl),
  d__law_refused := c.def_ 26 (d := dd__law_refused) rfl,
  m__law_refused := He.glo_ok X G (c.fact 48 (f := .glo "_law_refused") rfl),
  k__law_refused := He.keep_ok (c.fact 49 (f := .keep "_law_refused") rfl),
  d__law_sets := c.def_ 27 (d := dd__law_sets) rfl,
  m__law_sets := He.glo_ok X G (c.fact 50 (f := .glo "_law_sets") rfl),
  k__law_sets := He.keep_ok (c.fact 51 (f := .keep "_law_sets") rfl),
  d_all_sets := c.def_ 28 (d := dd_all_sets) rfl,
  m_all_sets := He.glo_ok X G (c.fact 52 (f := .glo "all_sets") rfl),
  k_all_sets := He.keep_ok (c.fact 53 (f := .keep "all_sets") rfl),
  d_parted := c.def_ 29 (d := dd_parted) rfl,
  m_parted := He.glo_ok X G (c.fact 54 (f := .glo "parted") rfl),
  k_parted := He.keep_ok (c.fact 55 (f := .keep "parted") rfl),
  d_needed := c.def_ 30 (d := dd_needed) rfl,
  m_needed := He.glo_ok X G (c.fact 56 (f := .glo "needed") rfl),
  k_needed := He.keep_ok (c.fact 57 (f := .keep "needed") rfl),
  d__law_one_right := c.def_ 31 (d := dd__law_one_right) rfl,
  m__law_one_right := He.glo_ok X G (c.fact 58 (f := .glo "_law_one_right") rfl),
  k__law_one_right := He.keep_ok (c.fact 59 (f := .keep "_law_one_right") rfl),
  d_law := c.def_ 32 (d := dd_law) rfl,
  m_law := He.glo_ok X G (c.fact 60 (f := .glo "law") rfl),
  k_law := He.keep_ok (c.fact 61 (f := .keep "law") rfl),
  n_all := He.free_ok X G (c.fact 62 (f := .free "all") rfl),
  n_any := He.free_ok X G (c.fact 63 (f := .free "any") rfl),
  n_bool := He.free_ok X G (c.fact 64 (f := .free "bool") rfl),
  n_dict := He.free_ok X G (c.fact 65 (f := .free "dict") rfl),
  n_int := He.free_ok X G (c.fact 66 (f := .free "int") rfl),
  n_isinstance := He.free_ok X G (c.fact 67 (f := .free "isinstance") rfl),
  n_len := He.free_ok X G (c.fact 68 (f := .free "len") rfl),
  n_list := He.free_ok X G (c.fact 69 (f := .free "list") rfl),
  n_max := He.free_ok X G (c.fact 70 (f := .free "max") rfl),
  n_min := He.free_ok X G (c.fact 71 (f := .free "min") rfl),
  n_range := He.free_ok X G (c.fact 72 (f := .free "range") rfl),
  n_str := He.free_ok X G (c.fact 73 (f := .free "str") rfl),
  n_tuple := He.free_ok X G (c.fact 74 (f := .free "tuple") rfl),
  c_LETTERS := He.str_ok X G (c.fact 75 (f := .str "LETTERS" "abcdefghijklmnopqrstuvwxyz") rfl),
  c_MAX_COST := He.int_ok X G (c.fact 76 (f := .int "MAX_COST" 9) rfl),
  c_MAX_FIELDS := He.int_ok X G (c.fact 77 (f := .int "MAX_FIELDS" 8) rfl),
  c_MAX_NAME := He.int_ok X G (c.fact 78 (f := .int "MAX_NAME" 8) rfl),
  c_MAX_PRICES := He.int_ok X G (c.fact 79 (f := .int "MAX_PRICES" 6) rfl),
  g_Field := He.glo_ok X G (c.fact 80 (f := .glo "Field") rfl),
  g_Board := He.glo_ok X G (c.fact 81 (f := .glo "Board") rfl),
  t_Field := rfl,
  mk_Field := He.mkr_ok (c.fact 82 (f := .mkr "Field") rfl),
  t_Board := rfl,
  mk_Board := He.mkr_ok (c.fact 83 (f := .mkr "Board") rfl),
  g_NotWinning := He.glo_ok X G (c.fact 84 (f := .glo "NotWinning") rfl),
  ex_NotWinning := He.exc_ok (c.fact 85 (f := .exc "NotWinning") rfl),
  xm_NotWinning := (fun i C ns b h1 h2 => by
    unfold tb at h1
    simp only at h1
    split at h1
    · cases h1
      cases (show some true = some b from h2)
      exact He.exm_ok (c.fact 86 (f := .exm "NotWinning" "NotWinning" true) rfl)
    · cases h1),
  f_aims := ⟨fun c i e => by
    unfold fd_aims at e
    split at e
    · cases e
      exact ⟨_, _, rfl, He.cls_ok (hc.fact 87 (f := .cls "Field") rfl), He.noat_ok (hc.fact 88 (f := .noat "Field" "aims") rfl), rfl, by decide⟩
    · cases e⟩,
  f_begin := ⟨fun c i e => by
    unfold fd_begin at e
    split at e
    · cases e
      exact ⟨_, _, rfl, He.cls_ok (hc.fact 89 (f := .cls "Board") rfl), He.noat_ok (hc.fact 90 (f := .noat "Board" "begin") rfl), rfl, by decide⟩
    · cases e⟩,
  f_fees := ⟨fun c i e => by
    unfold fd_fees at e
    split at e
    · cases e
      exact ⟨_, _, rfl, He.cls_ok (hc.fact 89 (f := .cls "Board") rfl), He.noat_ok (hc.fact 91 (f := .noat "Board" "fees") rfl), rfl, by decide⟩
    · cases e⟩,
  f_is_goal := ⟨fun c i e => by
    unfold fd_is_goal at e
    split at e
    · cases e
      exact ⟨_, _, rfl, He.cls_ok (hc.fact 87 (f := .cls "Field") rfl), He.noat_ok (hc.fact 92 (f := .noat "Field" "is_goal") rfl), rfl, by decide⟩
    · cases e⟩,
  f_lines := ⟨fun c i e => by
    unfold fd_lines at e
    split at e
    · cases e
      exact ⟨_, _, rfl, He.cls_ok (hc.fact 89 (f := .cls "Board") rfl), He.noat_ok (hc.fact 93 (f := .noat "Board" "lines") rfl), rfl, by decide⟩
    · cases e⟩,
  f_side := ⟨fun c i e => by
    unfold fd_side at e
    split at e
    · cases e
      exact ⟨_, _, rfl, He.cls_ok (hc.fact 87 (f := .cls "Field") rfl), He.noat_ok (hc.fact 94 (f := .noat "Field" "side") rfl), rfl, by decide⟩
    · cases e⟩,
  q_Board := isq_of (n := 6) (ex_at m 0 rfl) (ex_at m 1 rfl) (fun c h => by first | rfl | exact if_neg (by omega)) (clsAll c),
  q_Field := isq_of (n := 6) (ex_at m 2 rfl) (ex_at m 3 rfl) (fun c h => by first | rfl | exact if_neg (by omega)) (clsAll c),
  q_bool := isq_of (n := 6) (ex_at m 4 rfl) (ex_at m 5 rfl) (fun c h => by first | rfl | exact if_neg (by omega)) (clsAll c),
  q_dict := isq_of (n := 6) (ex_at m 6 rfl) (ex_at m 7 rfl) (fun c h => by first | rfl | exact if_neg (by omega)) (clsAll c),
  q_int := isq_of (n := 6) (ex_at m 8 rfl) (ex_at m 9 rfl) (fun c h => by first | rfl | exact if_neg (by omega)) (clsAll c),
  q_str := isq_of (n := 6) (ex_at m 10 rfl) (ex_at m 11 rfl) (fun c h => by first | rfl | exact if_neg (by omega)) (clsAll c),
  q_tuple := isq_of (n := 6) (ex_at m 12 rfl) (ex_at m 13 rfl) (fun c h => by first | rfl | exact if_neg (by omega)) (clsAll c) }
theorem law_fn (F : ∃ fd, FunD K "law" "law" (defArgs s_law) (defBody s_law) (defScope s_law) [] [] (He.fAd K ("law", none)) fd) (hy : Fs K mg) : ∃ fd : FuncData, (∀ (s : Shared) (v : Value), BindsTo s fd ⟨[v], []⟩ [("_law_script", v)]) ∧ ∀ base : Heap, FnOk P w K mg base (L2.CX P w) 8 (He.fAd K ("law", none)) fd ["_law_script"] (spL K (tb K) 1 (fnD 1 N_law.length dS_law)) := by
  obtain ⟨fd, F⟩ := F
  have b := FunD.bindsA (ps := ["_law_script"]) F fun _ _ _ _ _ _ us hl => match us, hl with | [_], _ => rfl
  exact ⟨fd, fun s v => b s [v] rfl, fun base => fn_L F sc_law fun cdv A outer s H E hr => body_law hy hr⟩
end Lw
open PySem PySem.W PySem.Calls PyProof.Rows
theorem Lw.ends (plain : Lw.Plain) : PySem.Challenge.rw_forbidmoves_k12_whole_needs.Holds := by
  w_on; o_law
  refine HandSHeadRun.head_any (r := OpenLaw.row PySem.Challenge.rw_forbidmoves_k12_whole_needs) (q := view (OpenLaw.row PySem.Challenge.rw_forbidmoves_k12_whole_needs).prog [52]) (H := Lw.hk) (ob := Lw.ob) (M := 12000) (loose := Lw.loose) (d := HandSHeadRun.topDef (OpenLaw.row PySem.Challenge.rw_forbidmoves_k12_whole_needs).prog 52) (kwd := []) Lw.ob_eq
    (by kernel_rfl) (fun s => by kernel_rfl) Lw.run (by kernel_rfl) (by kernel_rfl) (by kernel_rfl) (by rfl) (by first | assumption | decide +kernel) (by decide +kernel) ⟨rfl, rfl, rfl, rfl, rfl, by decide +kernel⟩ ?hw ?hc
  case hw => w_witness2
  case hc =>
    refine Fb.walk_ofF (l := PySem.Challenge.rw_forbidmoves_k12_whole_needs) (n := 63) (k := 8) (x := "_law_script") (CX := fun w => L2.CX (PySem.Challenge.rw_forbidmoves_k12_whole_needs).prog w) rfl (by decide) (by kernel_rfl) ⟨rfl, by decide, by decide⟩ ?F fun w => Fb.cx_out _ w
    intro w mg fa h Y G hmg0
    obtain ⟨K, KX, c⟩ := Y
    have hmg : mg ("law" : PySem.Str) = some (.ref fa) := by
      have e : (HandSHeadRun.topDef (OpenLaw.row PySem.Challenge.rw_forbidmoves_k12_whole_needs).prog 52).name = ("law" : PySem.Str) := by kernel_rfl
      rw [← e]
      exact hmg0
    have hy := Lw.facts KX G c.t.d c.more
    have e := hmg.symm.trans hy.m_law
    cases e
    obtain ⟨fd, hb, hF⟩ := Lw.law_fn (P := (PySem.Challenge.rw_forbidmoves_k12_whole_needs).prog) (w := w) hy.d_law hy
    refine ⟨K, fd, Fb.spL K (Lw.tb K) 1 (Fb.fnD 1 Lw.N_law.length Lw.dS_law), KX, hb, fun H a ns hl _ hS => ?_, fun base _ _ => ?_⟩
    · obtain ⟨st, e⟩ := plain ns hl
      exact Fb.law_ok hS e
    · exact hF base
/-! LR_k12 -/
set_option maxHeartbeats 0
namespace Lw
open PySem Fb Pg Lb
theorem law_turn (ns : List Int) {j : Sto} (hj : Wf j) (i : Nat) (y1 : Option Val) : ∃ j', Wf j' ∧ forStep (tgN 1) L_law_0 (.int (0 + (i : Nat) * 3)) [some (.d (.arr ns)), y1] j = .nx [some (.d (.arr ns)), some (.d (.int (0 + (i : Nat) * 3)))] j' := by
  have dw := L_next ns (0 + (i : Nat) * 3) (by omega) hj
  obtain ⟨n, h⟩ := one_right dw 0
  refine ⟨SB j ns (0 + (i : Nat) * 3) n, dw.wf n, ?_⟩
  have e0 : j ++ [some (Cel.lst [.arr ns, .int (0 + (i : Nat) * 3), .int 0])] = SB j ns (0 + (i : Nat) * 3) 0 := rfl
  simp only [forStep, L_law_0, evs, ev_lstL, ev_newCell, List.length_cons, List.length_nil, e0, h, Bool.not_true]
theorem plain : Plain := by
  intro ns hn
  obtain ⟨x, hx, hx2⟩ : ∃ x : Nat, x ≤ 24 ∧ (if (if (ns.length : Int) < 24 then (ns.length : Int) else 24) > 1 then (if (ns.length : Int) < 24 then (ns.length : Int) else 24) else 1) = (x : Nat) := by
    refine ⟨((if (if (ns.length : Int) < 24 then (ns.length : Int) else 24) > 1 then (if (ns.length : Int) < 24 then (ns.length : Int) else 24) else 1)).toNat, ?_, ?_⟩ <;> omega
  obtain ⟨m, hr⟩ := rng3_k 3 (.inl rfl) x hx []
  have loop := nx_for0 (g := tgN 1) (p := L_law_0) (enc := fun i : Nat => D.int (0 + (i : Nat) * 3)) (I := fun pr e s' => ∃ y j, Wf j ∧ e = [some (.d (.arr ns)), y] ∧ s' = j) (List.range m)
    (e := [some (.d (.arr ns)), none]) (s := []) ⟨none, [], wf_nil, rfl, rfl⟩ (by
      rintro pr i post e s' hp ⟨y, j, hj, rfl, rfl⟩
      obtain ⟨j', h1, h2⟩ := law_turn ns hj i y
      exact Nx.eq h2 ⟨_, j', h1, rfl, rfl⟩)
  obtain ⟨e, s', hl, y, j, hj, rfl, rfl⟩ := loop
  refine ⟨trunc 0 s', ?_⟩
  rw [ev_fnD [] _ 1 N_law.length _ rfl]
  simp only [N_law, dS_law, evs, List.length_cons, List.length_nil, Nat.reduceAdd, Nat.reduceSub, List.reduceReplicate, List.map_cons, List.map_nil, List.cons_append, List.nil_append, ev_max2, ev_min2, hx2, hr, hl]
end Lw
theorem PySem.Challenge.cw_forbidmoves_k12_whole_needs_holds : PySem.Challenge.rw_forbidmoves_k12_whole_needs.Holds := by
  exact Lw.ends Lw.plain
