import PyProof.Rows.All
import Wide.All
import OpenK.AllK
import Wide.FinOn
import HandS.ForMost
import HandS.ForExc
import HandS.Walk
import HandS.Flow
import HandS.Style
import HandS.IsInst
import HandS.TupAny
import HandS.Rev
import HandS.Codes
import HandS.Lambda
import KE.DataEq
import HandS.TupMul
import KE.GoesMore
import KE.GoesEnum
import HandS.Zip
import HandS.ExcOwn
import HandS.Defaults
import HandS.Words
import HandS.ForDict
import HandS.ExcIs
import HandS.TryOnly
import HandS.HeadHook1
import HandS.HeadHook4
import HandS.HeadWalk
import KE.KStateDown
import HandS.Base
import HandS.Call
import HandS.Ends
import HandS.More
import HandS.WordsExc
import HandS.Head0
import HandS.Head1
import HandS.Head2
import HandS.HeadHook2
import HandS.SetFor
import PySem.Challenge.RW_fewmarks_k60_patterns
/-! part Tw1 -/
section
/-! Tw1: trees, a small language, its evaluator. Plain Lean, nothing of the model. -/
set_option autoImplicit false
namespace Tw

/-- values: atoms, frozen containers, references into the heap -/
inductive T where
  | non | bl (b : Bool) | int (i : Int) | str (s : List Nat)
  | tup (l : List T) | lst (l : List T) | dct (ks vs : List T)
  | ins (c : Nat) (ns : List Nat) (vs : List T)
  | ref (i : Nat)
  deriving Inhabited

/-- what a reference leads to -/
inductive MO where
  | lst (l : List T) | dct (ks vs : List T) | ins (c : Nat) (ns : List Nat) (vs : List T)
abbrev Hm := List (Option MO)
abbrev Sl := List (Option T)

inductive R (α : Type) where
  | ok (a : α) (h : Hm) | exc (c : Nat) (vs : List T) (h : Hm) | bad
@[simp] def R.bind {α β : Type} : R α → (α → Hm → R β) → R β
  | .ok a h, f => f a h
  | .exc c vs h, _ => .exc c vs h
  | .bad, _ => .bad
@[simp] def ofO {α : Type} : Option α → Hm → R α
  | some a, h => .ok a h
  | none, _ => .bad

mutual
def T.beq : T → T → Bool
  | .non, .non => true
  | .bl a, .bl b => a == b
  | .int a, .int b => a == b
  | .str a, .str b => a == b
  | .tup a, .tup b => T.beqs a b
  | .lst a, .lst b => T.beqs a b
  | .dct a b, .dct c d => T.beqs a c && T.beqs b d
  | .ins c n a, .ins d m b => c == d && n == m && T.beqs a b
  | .ref a, .ref b => a == b
  | _, _ => false
def T.beqs : List T → List T → Bool
  | [], [] => true
  | x :: xs, y :: ys => T.beq x y && T.beqs xs ys
  | _, _ => false
end
/-! ### references below a mark -/
mutual
def T.und (n : Nat) : T → Bool
  | .tup l => T.unds n l
  | .lst l => T.unds n l
  | .dct ks vs => T.unds n ks && T.unds n vs
  | .ins _ _ vs => T.unds n vs
  | .ref i => decide (i < n)
  | .non => true
  | .bl _ => true
  | .int _ => true
  | .str _ => true
def T.unds (n : Nat) : List T → Bool
  | [] => true
  | x :: xs => T.und n x && T.unds n xs
end
def MO.und (n : Nat) : MO → Bool
  | .lst l => T.unds n l
  | .dct ks vs => T.unds n ks && T.unds n vs
  | .ins _ _ vs => T.unds n vs
def MO.beq : MO → MO → Bool
  | .lst a, .lst b => T.beqs a b
  | .dct a b, .dct c d => T.beqs a c && T.beqs b d
  | .ins c n a, .ins d m b => c == d && n == m && T.beqs a b
  | _, _ => false
def slotB : Option MO → Option MO → Bool
  | none, none => true
  | some a, some b => MO.beq a b
  | _, _ => false
/-- every slot of the first heap is as it was, gone, or refers below n -/
def preB (n : Nat) : Hm → Hm → Bool
  | [], _ => true
  | _ :: _, [] => false
  | a :: as, b :: bs => (slotB a b || (match b with | none => true | some m => m.und n)) && preB n as bs

/-! ### equality, as Python has it -/
mutual
def T.eqv : T → T → Bool
  | .non, .non => true
  | .bl a, .bl b => a == b
  | .bl a, .int j => (if a then 1 else 0) == j
  | .int i, .bl b => i == (if b then 1 else 0)
  | .int i, .int j => i == j
  | .str x, .str y => x == y
  | .lst xs, .lst ys => T.eqvs xs ys
  | .tup xs, .tup ys => T.eqvs xs ys
  | _, _ => false
def T.eqvs : List T → List T → Bool
  | [], [] => true
  | x :: xs, y :: ys => T.eqv x y && T.eqvs xs ys
  | _, _ => false
end
mutual
/-- data without dicts and references, so deep -/
def T.pl : Nat → T → Bool
  | _, .non => true
  | _, .bl _ => true
  | _, .int _ => true
  | _, .str _ => true
  | 0, .tup _ => false
  | 0, .lst _ => false
  | n + 1, .tup l => T.pls n l
  | n + 1, .lst l => T.pls n l
  | _, .dct _ _ => false
  | _, .ins _ _ _ => false
  | _, .ref _ => false
def T.pls : Nat → List T → Bool
  | _, [] => true
  | n, x :: xs => T.pl n x && T.pls n xs
end
def deepest : Nat := 60
def eqO (a b : T) : Option Bool := if T.pl deepest a && T.pl deepest b then some (T.eqv a b) else none
def inO (x : T) : T → Option Bool
  | .str s => match x with
    | .str [c] => some (s.contains c)
    | _ => none
  | .tup l => if T.pl deepest x && T.pls deepest l then some (l.any fun y => T.eqv y x) else none
  | .lst l => if T.pl deepest x && T.pls deepest l then some (l.any fun y => T.eqv y x) else none
  | _ => none

/-! ### truth, length, items -/
def lim : Nat := 16000000
def look (h : Hm) : T → T
  | .ref i => match h[i]? with
    | some (some (.lst l)) => .lst l
    | some (some (.dct ks vs)) => .dct ks vs
    | some (some (.ins c ns vs)) => .ins c ns vs
    | _ => .ref i
  | t => t
def truth : T → Option Bool
  | .non => some false
  | .bl b => some b
  | .int i => some (i != 0)
  | .str s => some (!s.isEmpty)
  | .tup l => some (!l.isEmpty)
  | .lst l => some (!l.isEmpty)
  | .dct ks _ => some (!ks.isEmpty)
  | _ => none
def lenO : T → Option Nat
  | .str s => some s.length
  | .tup l => some l.length
  | .lst l => some l.length
  | _ => none
def ixN (n : Nat) (i : Int) : Option Nat := if 0 ≤ i then (if i < n then some i.toNat else none) else if -(n : Int) ≤ i then some (i + n).toNat else none
def atI {α : Type} (xs : List α) (i : Int) : Option α := (ixN xs.length i).bind fun j => xs[j]?
def ixO : T → T → Option T
  | .str s, .int i => (atI s i).map fun c => .str [c]
  | .tup l, .int i => atI l i
  | .lst l, .int i => atI l i
  | _, _ => none
/-- a bound of a slice -/
def cutB (n d : Nat) : Option Int → Nat
  | none => d
  | some i => if i < 0 then (i + n).toNat else min i.toNat n
def cutL {α : Type} (l : List α) (lo hi : Option Int) : List α := (l.drop (cutB l.length 0 lo)).take (cutB l.length l.length hi - cutB l.length 0 lo)
def cutO (lo hi : Option Int) : T → Option T
  | .str s => some (.str (cutL s lo hi))
  | .tup l => some (.tup (cutL l lo hi))
  | .lst l => some (.lst (cutL l lo hi))
  | _ => none
def revO : T → Option T
  | .str s => some (.str s.reverse)
  | .lst l => some (.lst l.reverse)
  | _ => none
def rep {α : Type} (l : List α) (n : Int) : List α := (List.replicate n.toNat l).flatten

inductive Ty | int | str | bool | tuple | list | dict
  deriving DecidableEq
def isiO : T → Ty → Option Bool
  | .non, _ => some false
  | .bl _, .bool => some true
  | .bl _, .int => some true
  | .bl _, _ => some false
  | .int _, .int => some true
  | .int _, _ => some false
  | .str _, .str => some true
  | .str _, _ => some false
  | .tup _, .tuple => some true
  | .tup _, _ => some false
  | .lst _, .list => some true
  | .lst _, _ => some false
  | .dct _ _, .dict => some true
  | .dct _ _, _ => some false
  | _, _ => none

inductive Op | add | sub | mul | mod | fdiv | pow
  deriving DecidableEq
/-- a product that the model's own bound lets through -/
def mulOk (i j : Int) : Bool := (decide (-(2 ^ 64) < i) && decide (i < 2 ^ 64)) || (decide (-(2 ^ 64) < j) && decide (j < 2 ^ 64))
def powOk (i j : Int) : Bool := decide (0 ≤ j) && decide (j ≤ 100000) && decide (i.natAbs < 2 ^ 200)
def opO : Op → T → T → Option T
  | .add, .int i, .int j => some (.int (i + j))
  | .add, .str x, .str y => if x.length + y.length ≤ lim then some (.str (x ++ y)) else none
  | .add, .lst x, .lst y => if x.length + y.length ≤ lim then some (.lst (x ++ y)) else none
  | .add, .tup x, .tup y => if x.length + y.length ≤ lim then some (.tup (x ++ y)) else none
  | .sub, .int i, .int j => some (.int (i - j))
  | .mul, .int i, .int j => if mulOk i j then some (.int (i * j)) else none
  | .mul, .str x, .int n => if x.length * n.toNat ≤ lim ∧ n ≤ 1000000 ∧ -1000000 ≤ n then some (.str (rep x n)) else none
  | .mul, .lst x, .int n => if x.length * n.toNat ≤ lim ∧ n ≤ 1000000 ∧ -1000000 ≤ n then some (.lst (rep x n)) else none
  | .mul, .tup x, .int n => if x.isEmpty = false ∧ 2 ≤ n ∧ n ≤ 1000 ∧ x.length ≤ 1000 then some (.tup (rep x n)) else none
  | .mul, .int i, .bl b => some (.int (if b then i else 0))
  | .mod, .int i, .int j => if 0 < j then some (.int (i % j)) else none
  | .fdiv, .int i, .int j => if 0 < j ∧ j < 1073741824 then some (.int (i / j)) else none
  | .pow, .int i, .int j => if powOk i j then some (.int (i ^ j.toNat)) else none
  | _, _, _ => none

inductive Cm | eq | ne | lt | le | gt | ge | is_ | isnt | in_ | nin
  deriving DecidableEq
def isO : T → T → Option Bool
  | x, .non => some (match x with | .non => true | _ => false)
  | .bl a, .bl b => some (a == b)
  | _, _ => none
def cmO : Cm → T → T → Option Bool
  | .eq, a, b => eqO a b
  | .ne, a, b => (eqO a b).map not
  | .lt, .int i, .int j => some (decide (i < j))
  | .lt, .str x, .str y => some (decide (x < y))
  | .le, .int i, .int j => some (decide (i ≤ j))
  | .gt, .int i, .int j => some (decide (j < i))
  | .ge, .int i, .int j => some (decide (j ≤ i))
  | .is_, a, b => isO a b
  | .isnt, a, b => (isO a b).map not
  | .in_, a, b => inO a b
  | .nin, a, b => (inO a b).map not
  | _, _, _ => none

def bls : List T → Option (List Bool)
  | [] => some []
  | .bl b :: r => (bls r).map fun bs => b :: bs
  | _ => none
def txts : List T → Option (List (List Nat))
  | [] => some []
  | .str s :: r => (txts r).map fun ss => s :: ss
  | _ => none
/-- the text of a list of truths -/
def txtFrom : Nat → List Nat → List (List Nat) → List Nat
  | _, acc, [] => acc
  | k, acc, t :: r => txtFrom (k + 1) (acc ++ (if k > 0 then [44, 32] else []) ++ t) r
def blTx (b : Bool) : List Nat := if b then [84, 114, 117, 101] else [70, 97, 108, 115, 101]
def reprBls (bs : List Bool) : List Nat := txtFrom 0 [91] (bs.map blTx) ++ [93]
/-- texts with a text between -/
def joinL (sep : List Nat) : List (List Nat) → List Nat
  | [] => []
  | [x] => x
  | x :: y :: r => x ++ sep ++ joinL sep (y :: r)

inductive Bi | len | all | any | tuple | list | abs | int | max | min | repr
  deriving DecidableEq
def lenI (n : Nat) : T := .int n
def biO : Bi → List T → Option T
  | .len, [x] => (lenO x).map lenI
  | .all, [.lst l] => (bls l).map fun bs => .bl (bs.all id)
  | .any, [.lst l] => (bls l).map fun bs => .bl (bs.any id)
  | .tuple, [.lst l] => some (.tup l)
  | .tuple, [.tup l] => some (.tup l)
  | .list, [.lst l] => some (.lst l)
  | .list, [.tup l] => some (.lst l)
  | .abs, [.int i] => some (.int i.natAbs)
  | .int, [.int i] => some (.int i)
  | .int, [.bl b] => some (.int (if b then 1 else 0))
  | .max, [.int i, .int j] => some (.int (if j > i then j else i))
  | .min, [.int i, .int j] => some (.int (if j < i then j else i))
  | .repr, [.lst l] => if l.length ≤ 1000 then (bls l).map fun bs => .str (reprBls bs) else none
  | _, _ => none

inductive Me | append | join
  deriving DecidableEq
def meOk : Me → T → Bool
  | .append, .lst _ => true
  | .join, .str _ => true
  | _, _ => false
def meR : Me → T → List T → Hm → R T
  | .append, .ref i, [x], h => match h[i]? with
    | some (some (.lst l)) => if l.length < lim then .ok .non (h.set i (some (.lst (l ++ [x])))) else .bad
    | _ => .bad
  | .join, .str s, [x], h => match look h x with
    | .lst l => match txts l with
      | some ss => if (ss.map List.length).sum + ss.length * s.length ≤ lim then .ok (.str (joinL s ss)) h else .bad
      | none => .bad
    | _ => .bad
  | _, _, _, _ => .bad

/-- a made container: frozen, or a new place of the heap -/
def mk (m : Bool) (t : T) (h : Hm) : R T := if m then (match t with
    | .lst l => .ok (.ref h.length) (h ++ [some (.lst l)])
    | .dct ks vs => .ok (.ref h.length) (h ++ [some (.dct ks vs)])
    | _ => .bad) else .ok t h
def frzR (t : T) (h : Hm) : R T := match t with
  | .ref i => match h[i]? with
    | some (some (.lst l)) => .ok (.lst l) (h.set i none)
    | some (some (.dct ks vs)) => .ok (.dct ks vs) (h.set i none)
    | some (some (.ins c ns vs)) => .ok (.ins c ns vs) (h.set i none)
    | _ => .bad
  | t => .ok t h

inductive Tg | v (i : Nat) | u (l : List Tg)
mutual
inductive Ex where
  | c (t : T) | v (i : Nat)
  | tup (es : List Ex) | lst (m : Bool) (es : List Ex) | dct0 (m : Bool)
  | bin (m : Bool) (op : Op) (a b : Ex) | neg (a : Ex)
  | cmp (op : Cm) (a b : Ex) | cmp2 (o1 o2 : Cm) (a b c : Ex)
  | and (a b : Ex) | or (a b : Ex) | not (a : Ex) | ite (c a b : Ex)
  | ix (a b : Ex) | sl (m : Bool) (a : Ex) (lo hi : List Ex) | rev (m : Bool) (a : Ex)
  | call (f : Nat) (es : List Ex) | bi (m : Bool) (f : Bi) (es : List Ex) | me (f : Me) (o : Ex) (es : List Ex)
  | isi (e : Ex) (t : Ty)
  | lc (m : Bool) (g : Tg) (it : It) (cs : List Ex) (e : Ex)
  | told (g : Nat) (e : Ex) | frz (e : Ex)
inductive It where
  | e (a : Ex) | range (es : List Ex) | enum (a : Ex) | zip (a b : Ex)
end
inductive St where
  | ex (e : Ex) | ret (e : Ex) | asg (g : Tg) (e : Ex) | aug (i : Nat) (op : Op) (e : Ex) | set (o i e : Ex)
  | if_ (c : Ex) (a b : List St) | for_ (g : Tg) (it : It) (b : List St) | whl (n : Nat) (c : Ex) (b : List St)
  | raise (c : Nat) (es : List Ex) | pass | brk | cont
inductive Fl where
  | next (σ : Sl) | ret (t : T) | brk (σ : Sl) | cont (σ : Sl)

mutual
def Tg.put : Tg → T → Sl → Option Sl
  | .v i, t, σ => some (σ.set i (some t))
  | .u gs, .tup l, σ => Tg.puts gs l σ
  | .u _, _, _ => none
def Tg.puts : List Tg → List T → Sl → Option Sl
  | [], [], σ => some σ
  | g :: gs, t :: ts, σ => (Tg.put g t σ).bind fun σ => Tg.puts gs ts σ
  | _, _, _ => none
end

/-- lo, lo + c, .. -/
def steps (lo c : Int) : Nat → List T
  | 0 => []
  | n + 1 => .int lo :: steps (lo + c) c n
def rngO : List T → Option (List T)
  | [.int j] => if -lim ≤ j ∧ j ≤ lim then some (steps 0 1 j.toNat) else none
  | [.int i, .int j] => if -lim ≤ i ∧ i ≤ lim ∧ -lim ≤ j ∧ j ≤ lim then some (steps i 1 (j - i).toNat) else none
  | [.int i, .int j, .int c] => if -lim ≤ i ∧ i ≤ lim ∧ -lim ≤ j ∧ j ≤ lim ∧ c = -1 then some (steps i (-1) (i - j).toNat) else none
  | _ => none
def itemsO : T → Option (List T)
  | .str s => some (s.map fun c => .str [c])
  | .tup l => some l
  | .lst l => some l
  | _ => none
def enumT : Nat → List T → List T
  | _, [] => []
  | n, x :: xs => .tup [.int n, x] :: enumT (n + 1) xs
def zipT : List T → List T → List T
  | x :: xs, y :: ys => .tup [x, y] :: zipT xs ys
  | _, _ => []
def optI : List T → Option (Option Int)
  | [] => some none
  | [.int i] => some (some i)
  | _ => none

/-- what the evaluator is told: the functions, the catchers -/
structure Env where
  cf : Nat → List T → Hm → R T
  tf : Nat → R T → R T

/-- one turn: the target, the tests, the element -/
def lcGo (g : Tg) (tests : Sl → Hm → R Bool) (elt : Sl → Hm → R T) (x : T) (σ : Sl) (h : Hm) : R (Option T) := match g.put x σ with
  | none => .bad
  | some σ => (tests σ h).bind fun b h => if b then (elt σ h).bind fun y h => .ok (some y) h else .ok none h
/-- behind the turns -/
def lcEnd (m : Bool) (d : Nat) (h : Hm) : R T := if m then .ok (.ref d) h else frzR (.ref d) h
/-- a comprehension's turns: what go gives is put behind the list at d -/
def lcLoop (go : T → Sl → Hm → R (Option T)) (σ : Sl) (d : Nat) : List T → Hm → R Unit
  | [], h => .ok () h
  | x :: xs, h => match go x σ h with
    | .ok (some y) h => match h[d]? with
      | some (some (.lst l)) => if l.length < lim then lcLoop go σ d xs (h.set d (some (.lst (l ++ [y])))) else .bad
      | _ => .bad
    | .ok none h => lcLoop go σ d xs h
    | _ => .bad

mutual
def evE (Γ : Env) : Ex → Sl → Hm → R T
  | .c t, _, h => .ok t h
  | .v i, σ, h => match σ[i]? with
    | some (some t) => .ok t h
    | _ => .bad
  | .tup es, σ, h => (evEs Γ es σ h).bind fun ts h => .ok (.tup ts) h
  | .lst m es, σ, h => (evEs Γ es σ h).bind fun ts h => mk m (.lst ts) h
  | .dct0 m, _, h => mk m (.dct [] []) h
  | .bin m op a b, σ, h => (evE Γ a σ h).bind fun x h => (evE Γ b σ h).bind fun y h => (ofO (opO op (look h x) (look h y)) h).bind fun t h => mk m t h
  | .neg a, σ, h => (evE Γ a σ h).bind fun x h => match x with
    | .int i => .ok (.int (-i)) h
    | _ => .bad
  | .cmp op a b, σ, h => (evE Γ a σ h).bind fun x h => (evE Γ b σ h).bind fun y h => ofO ((cmO op (look h x) (look h y)).map T.bl) h
  | .cmp2 o1 o2 a b c, σ, h => (evE Γ a σ h).bind fun x h => (evE Γ b σ h).bind fun y h => match cmO o1 (look h x) (look h y) with
    | some true => (evE Γ c σ h).bind fun z h => ofO ((cmO o2 (look h y) (look h z)).map T.bl) h
    | some false => .ok (.bl false) h
    | none => .bad
  | .and a b, σ, h => (evE Γ a σ h).bind fun x h => match truth (look h x) with
    | some true => evE Γ b σ h
    | some false => .ok x h
    | none => .bad
  | .or a b, σ, h => (evE Γ a σ h).bind fun x h => match truth (look h x) with
    | some false => evE Γ b σ h
    | some true => .ok x h
    | none => .bad
  | .not a, σ, h => (evE Γ a σ h).bind fun x h => ofO ((truth (look h x)).map fun b => .bl (!b)) h
  | .ite c a b, σ, h => (evB Γ c σ h).bind fun t h => if t then evE Γ a σ h else evE Γ b σ h
  | .ix a b, σ, h => (evE Γ a σ h).bind fun x h => (evE Γ b σ h).bind fun y h => ofO (ixO (look h x) y) h
  | .sl m a lo hi, σ, h => (evE Γ a σ h).bind fun x h => (evEs Γ lo σ h).bind fun l h => match optI l with
    | some l => (evEs Γ hi σ h).bind fun u h => match optI u with
      | some u => (ofO (cutO l u (look h x)) h).bind fun t h => mk m t h
      | none => .bad
    | none => .bad
  | .rev m a, σ, h => (evE Γ a σ h).bind fun x h => (ofO (revO (look h x)) h).bind fun t h => mk m t h
  | .call f es, σ, h => (evEs Γ es σ h).bind fun ts h => Γ.cf f ts h
  | .bi m f es, σ, h => (evEs Γ es σ h).bind fun ts h => (ofO (biO f (ts.map (look h))) h).bind fun t h => mk m t h
  | .me f o es, σ, h => (evE Γ o σ h).bind fun x h => if meOk f (look h x) then (evEs Γ es σ h).bind fun ts h => meR f x ts h else .bad
  | .isi e t, σ, h => (evE Γ e σ h).bind fun x h => ofO ((isiO (look h x) t).map T.bl) h
  | .lc m g it cs e, σ, h => (evI Γ it σ h).bind fun xs h => (lcLoop (lcGo g (fun σ h => evBs Γ cs σ h) (fun σ h => evE Γ e σ h)) σ h.length xs (h ++ [some (.lst [])])).bind fun _ h' => lcEnd m h.length h'
  | .told g e, σ, h => Γ.tf g (evE Γ e σ h)
  | .frz e, σ, h => (evE Γ e σ h).bind fun t h => frzR t h
def evEs (Γ : Env) : List Ex → Sl → Hm → R (List T)
  | [], _, h => .ok [] h
  | e :: es, σ, h => (evE Γ e σ h).bind fun t h => (evEs Γ es σ h).bind fun ts h => .ok (t :: ts) h
/-- as a test -/
def evB (Γ : Env) : Ex → Sl → Hm → R Bool
  | .and a b, σ, h => (evB Γ a σ h).bind fun t h => if t then evB Γ b σ h else .ok false h
  | .or a b, σ, h => (evB Γ a σ h).bind fun t h => if t then .ok true h else evB Γ b σ h
  | .not a, σ, h => (evB Γ a σ h).bind fun t h => .ok (!t) h
  | .c t, _, h => ofO (truth t) h
  | .v i, σ, h => match σ[i]? with
    | some (some t) => ofO (truth (look h t)) h
    | _ => .bad
  | .cmp op a b, σ, h => (evE Γ a σ h).bind fun x h => (evE Γ b σ h).bind fun y h => ofO (cmO op (look h x) (look h y)) h
  | .cmp2 o1 o2 a b c, σ, h => (evE Γ a σ h).bind fun x h => (evE Γ b σ h).bind fun y h => match cmO o1 (look h x) (look h y) with
    | some true => (evE Γ c σ h).bind fun z h => ofO (cmO o2 (look h y) (look h z)) h
    | some false => .ok false h
    | none => .bad
  | .ix a b, σ, h => (evE Γ a σ h).bind fun x h => (evE Γ b σ h).bind fun y h => (ofO (ixO (look h x) y) h).bind fun t h => ofO (truth (look h t)) h
  | .call f es, σ, h => (evEs Γ es σ h).bind fun ts h => (Γ.cf f ts h).bind fun t h => ofO (truth (look h t)) h
  | .bi false f es, σ, h => (evEs Γ es σ h).bind fun ts h => (ofO (biO f (ts.map (look h))) h).bind fun t h => ofO (truth t) h
  | .isi e t, σ, h => (evE Γ e σ h).bind fun x h => ofO (isiO (look h x) t) h
  | _, _, _ => .bad
/-- all of them, the first one that is false ends it -/
def evBs (Γ : Env) : List Ex → Sl → Hm → R Bool
  | [], _, h => .ok true h
  | e :: es, σ, h => (evB Γ e σ h).bind fun b h => if b then evBs Γ es σ h else .ok false h
def evI (Γ : Env) : It → Sl → Hm → R (List T)
  | .e a, σ, h => (evE Γ a σ h).bind fun x h => ofO (itemsO x) h
  | .range es, σ, h => (evEs Γ es σ h).bind fun ts h => ofO (rngO ts) h
  | .enum a, σ, h => (evE Γ a σ h).bind fun x h => ofO ((itemsO x).map (enumT 0)) h
  | .zip a b, σ, h => (evE Γ a σ h).bind fun x h => (evE Γ b σ h).bind fun y h => match itemsO x, itemsO y with
    | some xs, some ys => .ok (zipT xs ys) h
    | _, _ => .bad
end

def setR (o i x : T) (h : Hm) : R Unit := match o, i with
  | .ref j, .int k => match h[j]? with
    | some (some (.lst l)) => match ixN l.length k with
      | some n => .ok () (h.set j (some (.lst (l.set n x))))
      | none => .bad
    | _ => .bad
  | _, _ => .bad

/-- a for's turns -/
def forLoop (g : Tg) (body : Sl → Hm → R Fl) : List T → Sl → Hm → R Fl
  | [], σ, h => .ok (.next σ) h
  | x :: xs, σ, h => match g.put x σ with
    | none => .bad
    | some σ => (body σ h).bind fun f h => match f with
      | .next σ => forLoop g body xs σ h
      | .cont σ => forLoop g body xs σ h
      | .brk σ => .ok (.next σ) h
      | .ret t => .ok (.ret t) h
/-- a while's turns, at most so many -/
def whlLoop (test : Sl → Hm → R Bool) (body : Sl → Hm → R Fl) : Nat → Sl → Hm → R Fl
  | 0, _, _ => .bad
  | n + 1, σ, h => (test σ h).bind fun b h => if b then (body σ h).bind fun f h => match f with
      | .next σ => whlLoop test body n σ h
      | .cont σ => whlLoop test body n σ h
      | .brk σ => .ok (.next σ) h
      | .ret t => .ok (.ret t) h
    else .ok (.next σ) h
mutual
def evS (Γ : Env) : St → Sl → Hm → R Fl
  | .ex e, σ, h => (evE Γ e σ h).bind fun _ h => .ok (.next σ) h
  | .ret e, σ, h => (evE Γ e σ h).bind fun t h => .ok (.ret t) h
  | .asg g e, σ, h => (evE Γ e σ h).bind fun t h => ofO ((g.put t σ).map Fl.next) h
  | .aug i op e, σ, h => match σ[i]? with
    | some (some x) => (evE Γ e σ h).bind fun y h => match op, x, y with
      | .add, .int a, .int b => .ok (.next (σ.set i (some (.int (a + b))))) h
      | .sub, .int a, .int b => .ok (.next (σ.set i (some (.int (a - b))))) h
      | _, _, _ => .bad
    | _ => .bad
  | .set o i e, σ, h => (evE Γ e σ h).bind fun x h => (evE Γ o σ h).bind fun d h => (evE Γ i σ h).bind fun k h => (setR d k x h).bind fun _ h => .ok (.next σ) h
  | .if_ c a b, σ, h => (evB Γ c σ h).bind fun t h => if t then evSs Γ a σ h else evSs Γ b σ h
  | .for_ g it b, σ, h => (evI Γ it σ h).bind fun xs h => forLoop g (fun σ h => evSs Γ b σ h) xs σ h
  | .whl n c b, σ, h => whlLoop (fun σ h => evB Γ c σ h) (fun σ h => evSs Γ b σ h) n σ h
  | .raise c es, σ, h => (evEs Γ es σ h).bind fun ts h => .exc c ts h
  | .pass, σ, h => .ok (.next σ) h
  | .brk, σ, h => .ok (.brk σ) h
  | .cont, σ, h => .ok (.cont σ) h
def evSs (Γ : Env) : List St → Sl → Hm → R Fl
  | [], σ, h => .ok (.next σ) h
  | s :: ss, σ, h => (evS Γ s σ h).bind fun f h => match f with
    | .next σ => evSs Γ ss σ h
    | f => .ok f h
end

/-- a function: how many parameters, how many slots, its body; nothing that it makes is left in the heap -/
structure FD where
  np : Nat
  nl : Nat
  body : List St
/-- behind a call: what was made goes -/
def leave (h : Hm) (t : T) (h' : Hm) : R T := if t.und h.length && preB h.length h h' then .ok t (h'.take h.length) else match t with
  | .ref j => match h'[j]? with
    | some (some mo) => if mo.und h.length && preB h.length h h' then .ok (.ref h.length) (h'.take h.length ++ [some mo]) else .bad
    | _ => .bad
  | _ => .bad
def leaveX (h : Hm) (c : Nat) (ts : List T) (h' : Hm) : R T := if T.unds h.length ts && preB h.length h h' then .exc c ts (h'.take h.length) else .bad
def call (Φ : Nat → Option FD) (tf : Nat → R T → R T) : Nat → Nat → List T → Hm → R T
  | 0, _, _, _ => .bad
  | n + 1, f, ts, h => match Φ f with
    | none => .bad
    | some d => if ts.length = d.np then (match evSs ⟨call Φ tf n, tf⟩ d.body (ts.map some ++ List.replicate (d.nl - d.np) none) h with
        | .ok (.ret t) h' => leave h t h'
        | .ok (.next _) h' => leave h .non h'
        | .ok _ _ => .bad
        | .exc c ts h' => leaveX h c ts h'
        | .bad => .bad) else .bad
end Tw
end
/-! part Tw2a -/
section
set_option Elab.async false
set_option linter.all false
set_option maxRecDepth 100000
/-! Tw2a: trees and the layer's abstract heap: the relation, how it is kept. -/
namespace Tw
open PySem L2

/-- a text's codes -/
abbrev tx (l : List Nat) : PySem.Str := ⟨l.toArray⟩
/-- what the trees lean on besides the heap: the written part, the classes' addresses, the fields' names -/
structure Gx where
  K : PySem.W.Frag
  ca : Nat → Addr
  fnm : Nat → PySem.Str
  tb : List (Addr × PySem.Str)
/-- a world: the layer's heap, the addresses of the references, the evaluator's heap -/
structure Wd where
  H : Hp
  β : List Addr
  h : Hm
def Wd.M (W : Wd) (a : Addr) : Prop := ∃ (i : Nat) (mo : MO), W.h[i]? = some (some mo) ∧ W.β[i]? = some a

/-- a frozen list, a frozen tuple -/
def FzL (K : PySem.W.Frag) (W : Wd) (a : Addr) (xs : List V) : Prop := (Rd W.H a (.lst xs) ∧ ¬ W.M a) ∨
    ∃ (o : Obj) (its : Array Value) (n : Nat), K.lookup a = some o ∧ o.cls = .type "list" ∧ o.dict = none ∧ o.data = .seq its n ∧ its.size ≤ sizeLine ∧ Vals xs its.toList
def FzT (K : PySem.W.Frag) (W : Wd) (a : Addr) (xs : List V) : Prop := (Rd W.H a (.tup xs) ∧ ¬ W.M a) ∨
    ∃ (o : Obj) (its : Array Value) (n : Nat), K.lookup a = some o ∧ o.cls = .type "tuple" ∧ o.data = .seq its n ∧ its.size ≤ sizeLine ∧ Vals xs its.toList
theorem FzL.sq {K : PySem.W.Frag} {W : Wd} {a : Addr} {xs : List V} (h : FzL K W a xs) : SqL K W.H a xs := h.elim (fun q => .inl q.1) .inr
theorem FzT.sq {K : PySem.W.Frag} {W : Wd} {a : Addr} {xs : List V} (h : FzT K W a xs) : SqT K W.H a xs := h.elim (fun q => .inl q.1) .inr
/-- a key as a tree -/
def kT : Key → T
  | .inl i => .int i
  | .inr x => .str x.cps.toList

mutual
def RT (G : Gx) (W : Wd) : T → V → Prop
  | .non, v => v = .non
  | .bl b, v => v = .bl b
  | .int i, v => v = .int i
  | .str s, v => v = .str (tx s) ∧ s.length ≤ sizeLine
  | .tup l, v => ∃ a vs, v = .ref a ∧ FzT G.K W a vs ∧ RTs G W l vs
  | .lst l, v => ∃ a vs, v = .ref a ∧ FzL G.K W a vs ∧ RTs G W l vs
  | .dct ks vs, v => ∃ a kvs, v = .ref a ∧ W.H a = some (.dK kvs) ∧ ¬ W.M a ∧ ks = kvs.map (fun kv => kT kv.1) ∧ RTs G W vs (kvs.map (·.2))
  | .ins c ns vs, v => ∃ a dx fs, v = .ref a ∧ W.H a = some (.ins (G.ca c) dx fs) ∧ ¬ W.M a ∧ fs.map (·.1) = ns.map G.fnm ∧ RTs G W vs (fs.map (·.2))
  | .ref i, v => ∃ a, W.β[i]? = some a ∧ v = .ref a
def RTs (G : Gx) (W : Wd) : List T → List V → Prop
  | [], vs => vs = []
  | t :: ts, vs => ∃ v r, vs = v :: r ∧ RT G W t v ∧ RTs G W ts r
end
/-- a reference's object -/
def RM (G : Gx) (W : Wd) : MO → Addr → Prop
  | .lst l, a => ∃ vs, W.H a = some (.lst vs) ∧ RTs G W l vs
  | .dct ks vs, a => ∃ kvs, W.H a = some (.dK kvs) ∧ ks = kvs.map (fun kv => kT kv.1) ∧ RTs G W vs (kvs.map (·.2))
  | .ins c ns vs, a => ∃ dx fs, W.H a = some (.ins (G.ca c) dx fs) ∧ fs.map (·.1) = ns.map G.fnm ∧ RTs G W vs (fs.map (·.2))
structure Wd.Ok (G : Gx) (W : Wd) : Prop where
  len : W.β.length = W.h.length
  cont : ∀ (i : Nat) mo a, W.h[i]? = some (some mo) → W.β[i]? = some a → RM G W mo a
  inj : ∀ (i j : Nat) a mi mj, W.h[i]? = some (some mi) → W.h[j]? = some (some mj) → W.β[i]? = some a → W.β[j]? = some a → i = j
  tabs : LamX.Tabs G.tb W.H
/-- a later world -/
structure Ext (W W' : Wd) : Prop where
  keep : ∀ a o, W.H a = some o → ¬ W.M a → (∀ ps, o ≠ .tbl ps) → W'.H a = some o ∧ ¬ W'.M a
  bet : ∀ (i : Nat) a, W.β[i]? = some a → W'.β[i]? = some a
theorem Ext.refl (W : Wd) : Ext W W := ⟨fun _ _ e n _ => ⟨e, n⟩, fun _ _ e => e⟩
theorem Ext.trans {W W' W'' : Wd} (a : Ext W W') (b : Ext W' W'') : Ext W W'' :=
  ⟨fun x o e n t => let ⟨e', n'⟩ := a.keep x o e n t; b.keep x o e' n' t, fun i x e => b.bet i x (a.bet i x e)⟩

section
variable {G : Gx} {W W' : Wd}
theorem Ext.rd {a : Addr} {u : HO} (e : Ext W W') (r : Rd W.H a u) (n : ¬ W.M a) (t : ∀ ps, u ≠ .tbl ps := by intro _ z; cases z) : Rd W'.H a u ∧ ¬ W'.M a := by
  rcases r with r | ⟨o, r⟩
  · exact ⟨.inl (e.keep a _ r n t).1, (e.keep a _ r n t).2⟩
  · have t' : ∀ ps, HO.frz o u ≠ .tbl ps := fun _ z => by cases z
    exact ⟨.inr ⟨o, (e.keep a _ r n t').1⟩, (e.keep a _ r n t').2⟩
theorem FzL.ext {K : PySem.W.Frag} {a : Addr} {xs : List V} (h : FzL K W a xs) (e : Ext W W') : FzL K W' a xs := h.elim (fun q => .inl (e.rd q.1 q.2)) .inr
theorem FzT.ext {K : PySem.W.Frag} {a : Addr} {xs : List V} (h : FzT K W a xs) (e : Ext W W') : FzT K W' a xs := h.elim (fun q => .inl (e.rd q.1 q.2)) .inr
mutual
theorem RT.ext (e : Ext W W') : ∀ (t : T) (v : V), RT G W t v → RT G W' t v
  | .non, _, h => h
  | .bl _, _, h => h
  | .int _, _, h => h
  | .str _, _, h => h
  | .tup l, v, h => by
    obtain ⟨a, vs, q, f, r⟩ := h
    exact ⟨a, vs, q, f.ext e, RTs.ext e l vs r⟩
  | .lst l, v, h => by
    obtain ⟨a, vs, q, f, r⟩ := h
    exact ⟨a, vs, q, f.ext e, RTs.ext e l vs r⟩
  | .dct ks l, v, h => by
    obtain ⟨a, kvs, q, rd, n, k, r⟩ := h
    exact ⟨a, kvs, q, (e.keep _ _ rd n (fun _ z => by cases z)).1, (e.keep _ _ rd n (fun _ z => by cases z)).2, k, RTs.ext e l _ r⟩
  | .ins c ns l, v, h => by
    obtain ⟨a, dx, fs, q, f, n, k, r⟩ := h
    exact ⟨a, dx, fs, q, (e.keep _ _ f n (fun _ z => by cases z)).1, (e.keep _ _ f n (fun _ z => by cases z)).2, k, RTs.ext e l _ r⟩
  | .ref i, v, h => by
    obtain ⟨a, b, q⟩ := h
    exact ⟨a, e.bet i a b, q⟩
theorem RTs.ext (e : Ext W W') : ∀ (ts : List T) (vs : List V), RTs G W ts vs → RTs G W' ts vs
  | [], _, h => h
  | t :: ts, vs, h => by
    obtain ⟨v, r, q, a, b⟩ := h
    exact ⟨v, r, q, RT.ext e t v a, RTs.ext e ts r b⟩
end
theorem RTs.length : ∀ {ts : List T} {vs : List V}, RTs G W ts vs → ts.length = vs.length
  | [], _, h => by cases h; rfl
  | t :: ts, vs, h => by
    obtain ⟨v, r, rfl, a, b⟩ := h
    rw [List.length_cons, List.length_cons, RTs.length b]
theorem RTs.get : ∀ {ts : List T} {vs : List V} {i : Nat} {t : T}, RTs G W ts vs → ts[i]? = some t → ∃ v, vs[i]? = some v ∧ RT G W t v
  | [], _, _, _, h, e => by simp at e
  | t :: ts, vs, i, u, h, e => by
    obtain ⟨v, r, rfl, a, b⟩ := h
    cases i with
    | zero => simp at e; subst e; exact ⟨v, rfl, a⟩
    | succ i => simpa using RTs.get b (by simpa using e)
theorem RTs.get' : ∀ {ts : List T} {vs : List V} {i : Nat} {v : V}, RTs G W ts vs → vs[i]? = some v → ∃ t, ts[i]? = some t ∧ RT G W t v
  | [], _, _, _, h, e => by cases h; simp at e
  | t :: ts, vs, i, u, h, e => by
    obtain ⟨v, r, rfl, a, b⟩ := h
    cases i with
    | zero => simp at e; subst e; exact ⟨t, rfl, a⟩
    | succ i => simpa using RTs.get' b (by simpa using e)
theorem RTs.append : ∀ {ts us : List T} {vs ws : List V}, RTs G W ts vs → RTs G W us ws → RTs G W (ts ++ us) (vs ++ ws)
  | [], _, _, _, h, k => by cases h; exact k
  | t :: ts, us, vs, ws, h, k => by
    obtain ⟨v, r, rfl, a, b⟩ := h
    exact ⟨v, r ++ ws, rfl, a, RTs.append b k⟩
theorem RTs.one {t : T} {v : V} (h : RT G W t v) : RTs G W [t] [v] := ⟨v, [], rfl, h, rfl⟩
theorem RTs.set : ∀ {ts : List T} {vs : List V} {t : T} {v : V} (i : Nat), RTs G W ts vs → RT G W t v → RTs G W (ts.set i t) (vs.set i v)
  | [], _, _, _, _, h, _ => by cases h; rfl
  | t :: ts, vs, u, w, i, h, k => by
    obtain ⟨v, r, rfl, a, b⟩ := h
    cases i with
    | zero => exact ⟨w, r, rfl, k, b⟩
    | succ i => exact ⟨v, r.set i w, rfl, a, RTs.set i b k⟩
theorem RTs.drop : ∀ {ts : List T} {vs : List V} (n : Nat), RTs G W ts vs → RTs G W (ts.drop n) (vs.drop n)
  | _, _, 0, h => h
  | [], _, n + 1, h => by cases h; rfl
  | t :: ts, vs, n + 1, h => by
    obtain ⟨v, r, rfl, a, b⟩ := h
    exact RTs.drop n b
theorem RTs.take : ∀ {ts : List T} {vs : List V} (n : Nat), RTs G W ts vs → RTs G W (ts.take n) (vs.take n)
  | _, _, 0, h => rfl
  | [], _, n + 1, h => by cases h; rfl
  | t :: ts, vs, n + 1, h => by
    obtain ⟨v, r, rfl, a, b⟩ := h
    exact ⟨v, r.take n, rfl, a, RTs.take n b⟩
theorem RTs.reverse : ∀ {ts : List T} {vs : List V}, RTs G W ts vs → RTs G W ts.reverse vs.reverse
  | [], _, h => by cases h; rfl
  | t :: ts, vs, h => by
    obtain ⟨v, r, rfl, a, b⟩ := h
    rw [List.reverse_cons, List.reverse_cons]
    exact RTs.append (RTs.reverse b) (RTs.one a)
theorem RTs.rep {ts : List T} {vs : List V} (h : RTs G W ts vs) : ∀ k : Nat, RTs G W (List.replicate k ts).flatten (List.replicate k vs).flatten
  | 0 => rfl
  | k + 1 => by
    rw [List.replicate_succ, List.replicate_succ, List.flatten_cons, List.flatten_cons]
    exact RTs.append h (RTs.rep h k)
theorem RTs.nil_iff {ts : List T} {vs : List V} (h : RTs G W ts vs) : ts = [] ↔ vs = [] := by
  have := h.length
  cases ts <;> cases vs <;> simp_all

/-! ### new objects -/
theorem Ext.new {p : Addr} {o : HO} (hp : W.H p = none) : Ext W ⟨upd W.H p o, W.β, W.h⟩ :=
  ⟨fun a u e n _ => ⟨by show upd W.H p o a = _; rw [upd_ne (ne_of_none e hp)]; exact e, n⟩, fun _ _ e => e⟩
theorem Wd.Ok.new {p : Addr} {o : HO} (ok : W.Ok G) (hp : W.H p = none) : Wd.Ok G ⟨upd W.H p o, W.β, W.h⟩ := by
  have ex : Ext W ⟨upd W.H p o, W.β, W.h⟩ := Ext.new hp
  refine ⟨ok.len, fun i mo a h1 h2 => ?_, ok.inj, ok.tabs.ext fun b u e => by show upd W.H p o b = _; rw [upd_ne (ne_of_none e hp)]; exact e⟩
  have q := ok.cont i mo a h1 h2
  cases mo with
  | lst l =>
    obtain ⟨vs, e, r⟩ := q
    exact ⟨vs, by show upd W.H p o a = _; rw [upd_ne (ne_of_none e hp)]; exact e, RTs.ext ex _ _ r⟩
  | dct ks vs =>
    obtain ⟨kvs, e, k, r⟩ := q
    exact ⟨kvs, by show upd W.H p o a = _; rw [upd_ne (ne_of_none e hp)]; exact e, k, RTs.ext ex _ _ r⟩
  | ins c ns vs =>
    obtain ⟨dx, fs, e, k, r⟩ := q
    exact ⟨dx, fs, by show upd W.H p o a = _; rw [upd_ne (ne_of_none e hp)]; exact e, k, RTs.ext ex _ _ r⟩
/-- a list, a dict, an instance -/
def Trk : HO → Prop
  | .lst _ => True
  | .dK _ => True
  | .ins _ _ _ => True
  | _ => False
theorem Wd.Ok.tracked {i : Nat} {mo : MO} {a : Addr} (ok : W.Ok G) (h1 : W.h[i]? = some (some mo)) (h2 : W.β[i]? = some a) : ∃ o, W.H a = some o ∧ Trk o := by
  have q := ok.cont i mo a h1 h2
  cases mo with
  | lst l => obtain ⟨vs, e, _⟩ := q; exact ⟨_, e, trivial⟩
  | dct ks vs => obtain ⟨kvs, e, _⟩ := q; exact ⟨_, e, trivial⟩
  | ins c ns vs => obtain ⟨dx, fs, e, _⟩ := q; exact ⟨_, e, trivial⟩
theorem tabs_upd {H : Hp} {T : List (Addr × PySem.Str)} {a : Addr} {u o : HO} (t : LamX.Tabs T H) (h : H a = some u) (k : Trk u) : LamX.Tabs T (upd H a o) := fun p hp => by
  obtain ⟨ps, e1, e2, e3⟩ := t p hp
  refine ⟨ps, by rw [upd_ne (ne_of e1 h (fun z => by rw [← z] at k; exact k))]; exact e1, e2, fun pos cv hc => ?_⟩
  obtain ⟨c, z1, z2⟩ := e3 pos cv hc
  exact ⟨c, z1, by rw [upd_ne (ne_of z2 h (fun z => by rw [← z] at k; exact k))]; exact z2⟩
theorem Wd.Ok.notM {a : Addr} (ok : W.Ok G) (hp : W.H a = none) : ¬ W.M a := fun ⟨i, mo, h1, h2⟩ => by
  obtain ⟨o, e, _⟩ := ok.tracked h1 h2
  rw [hp] at e; cases e
/-- a new reference -/
theorem mNew {p : Addr} {o : HO} {mo : MO} (hp : W.H p = none) (a : Addr) : Wd.M ⟨upd W.H p o, W.β ++ [p], W.h ++ [some mo]⟩ a → W.β.length = W.h.length → W.M a ∨ a = p := by
  rintro ⟨i, m, h1, h2⟩ hl
  by_cases hi : i < W.h.length
  · exact .inl ⟨i, m, by simpa [List.getElem?_append_left hi] using h1, by simpa [List.getElem?_append_left (show i < W.β.length by omega)] using h2⟩
  · refine .inr ?_
    have h2 : (W.β ++ [p])[i]? = some a := h2
    rw [List.getElem?_append_right (by omega)] at h2
    rcases Nat.eq_zero_or_pos (i - W.β.length) with z | z
    · rw [z] at h2; simpa using h2.symm
    · rw [List.getElem?_eq_none (by simp; omega)] at h2; cases h2
theorem Ext.newM {p : Addr} {o : HO} {mo : MO} (ok : W.Ok G) (hp : W.H p = none) : Ext W ⟨upd W.H p o, W.β ++ [p], W.h ++ [some mo]⟩ := by
  refine ⟨fun a u e n _ => ⟨by show upd W.H p o a = _; rw [upd_ne (ne_of_none e hp)]; exact e, fun hm => ?_⟩, fun i a e => ?_⟩
  · rcases mNew hp a hm ok.len with h | h
    · exact n h
    · exact ne_of_none e hp h
  · show (W.β ++ [p])[i]? = _
    rw [List.getElem?_append_left (by
      obtain ⟨hi, _⟩ := List.getElem?_eq_some_iff.mp e
      exact hi)]
    exact e
theorem Wd.Ok.newM {p : Addr} {o : HO} {mo : MO} (ok : W.Ok G) (hp : W.H p = none) (hn : RM G ⟨upd W.H p o, W.β ++ [p], W.h ++ [some mo]⟩ mo p) : Wd.Ok G ⟨upd W.H p o, W.β ++ [p], W.h ++ [some mo]⟩ := by
  have ex : Ext W ⟨upd W.H p o, W.β ++ [p], W.h ++ [some mo]⟩ := Ext.newM ok hp
  have cases_ : ∀ {i : Nat} {m : MO} {a : Addr}, (W.h ++ [some mo])[i]? = some (some m) → (W.β ++ [p])[i]? = some a → (W.h[i]? = some (some m) ∧ W.β[i]? = some a) ∨ (i = W.h.length ∧ m = mo ∧ a = p) := fun {i m a} h1 h2 => by
    have hl := ok.len
    by_cases hi : i < W.h.length
    · exact .inl ⟨by simpa [List.getElem?_append_left hi] using h1, by simpa [List.getElem?_append_left (show i < W.β.length by omega)] using h2⟩
    · refine .inr ?_
      rw [List.getElem?_append_right (by omega)] at h1 h2
      rcases Nat.eq_zero_or_pos (i - W.h.length) with z | z
      · rw [z] at h1
        rw [show i - W.β.length = 0 by omega] at h2
        simp at h1 h2
        exact ⟨by omega, h1.symm, h2.symm⟩
      · rw [List.getElem?_eq_none (by simp; omega)] at h1; cases h1
  refine ⟨by show (W.β ++ [p]).length = (W.h ++ [some mo]).length; simp [ok.len], fun i m a h1 h2 => ?_, fun i j a mi mj h1 h2 h3 h4 => ?_, ok.tabs.ext fun b u e => by show upd W.H p o b = _; rw [upd_ne (ne_of_none e hp)]; exact e⟩
  · rcases cases_ h1 h2 with ⟨g1, g2⟩ | ⟨_, rfl, rfl⟩
    · have q := ok.cont i m a g1 g2
      have at_ : ∀ u, W.H a = some u → upd W.H p o a = some u := fun u e => by rw [upd_ne (ne_of_none e hp)]; exact e
      cases m with
      | lst l => obtain ⟨vs, e, r⟩ := q; exact ⟨vs, at_ _ e, RTs.ext ex _ _ r⟩
      | dct ks vs => obtain ⟨kvs, e, k, r⟩ := q; exact ⟨kvs, at_ _ e, k, RTs.ext ex _ _ r⟩
      | ins c ns vs => obtain ⟨dx, fs, e, k, r⟩ := q; exact ⟨dx, fs, at_ _ e, k, RTs.ext ex _ _ r⟩
    · exact hn
  · rcases cases_ h1 h3 with ⟨g1, g3⟩ | ⟨e1, _, e2⟩
    · rcases cases_ h2 h4 with ⟨g2, g4⟩ | ⟨_, _, e⟩
      · exact ok.inj i j a mi mj g1 g2 g3 g4
      · obtain ⟨u, q, _⟩ := ok.tracked g1 g3
        rw [e, hp] at q; cases q
    · rcases cases_ h2 h4 with ⟨g2, g4⟩ | ⟨e3, _, _⟩
      · obtain ⟨u, q, _⟩ := ok.tracked g2 g4
        rw [e2, hp] at q; cases q
      · omega
/-! ### a reference's object is changed -/
theorem mSet {i : Nat} {mo mo' : MO} {a : Addr} {o : HO} (h1 : W.h[i]? = some (some mo)) (b : Addr) : Wd.M ⟨upd W.H a o, W.β, W.h.set i (some mo')⟩ b → W.M b := by
  rintro ⟨j, m, q1, q2⟩
  by_cases e : i = j
  · subst e; exact ⟨i, mo, h1, q2⟩
  · have q1 : (W.h.set i (some mo'))[j]? = some (some m) := q1
    rw [List.getElem?_set_ne e] at q1
    exact ⟨j, m, q1, q2⟩
theorem Ext.set {i : Nat} {mo mo' : MO} {a : Addr} {o : HO} (h1 : W.h[i]? = some (some mo)) (h2 : W.β[i]? = some a) : Ext W ⟨upd W.H a o, W.β, W.h.set i (some mo')⟩ :=
  ⟨fun b u e n _ => ⟨by
    have ne : b ≠ a := fun z => n ⟨i, mo, h1, by rw [z]; exact h2⟩
    show upd W.H a o b = _
    rw [upd_ne ne]; exact e, fun m => n (mSet h1 b m)⟩, fun _ _ e => e⟩
theorem Wd.Ok.set {i : Nat} {mo mo' : MO} {a : Addr} {o : HO} (ok : W.Ok G) (h1 : W.h[i]? = some (some mo)) (h2 : W.β[i]? = some a) (hn : RM G ⟨upd W.H a o, W.β, W.h.set i (some mo')⟩ mo' a) : Wd.Ok G ⟨upd W.H a o, W.β, W.h.set i (some mo')⟩ := by
  have ex : Ext W ⟨upd W.H a o, W.β, W.h.set i (some mo')⟩ := Ext.set h1 h2
  have hi : i < W.h.length := (List.getElem?_eq_some_iff.mp h1).1
  refine ⟨by show W.β.length = (W.h.set i (some mo')).length; simp [ok.len], fun j m b q1 q2 => ?_, fun j k b mj mk q1 q2 q3 q4 => ?_, by
    obtain ⟨u, e, k⟩ := ok.tracked h1 h2
    exact tabs_upd ok.tabs e k⟩
  · have q1 : (W.h.set i (some mo'))[j]? = some (some m) := q1
    by_cases e : i = j
    · subst e
      rw [List.getElem?_set_self hi] at q1
      have q2 : W.β[i]? = some b := q2
      rw [h2] at q2
      cases q1; cases q2
      exact hn
    · rw [List.getElem?_set_ne e] at q1
      have q2 : W.β[j]? = some b := q2
      have ne : b ≠ a := fun z => e (ok.inj i j a mo m h1 q1 h2 (z ▸ q2))
      have q := ok.cont j m b q1 q2
      have at_ : ∀ u, W.H b = some u → upd W.H a o b = some u := fun u e => by rw [upd_ne ne]; exact e
      cases m with
      | lst l => obtain ⟨vs, e, r⟩ := q; exact ⟨vs, at_ _ e, RTs.ext ex _ _ r⟩
      | dct ks vs => obtain ⟨kvs, e, k, r⟩ := q; exact ⟨kvs, at_ _ e, k, RTs.ext ex _ _ r⟩
      | ins c ns vs => obtain ⟨dx, fs, e, k, r⟩ := q; exact ⟨dx, fs, at_ _ e, k, RTs.ext ex _ _ r⟩
  · have back : ∀ {j m}, (W.h.set i (some mo'))[j]? = some (some m) → ∃ m', W.h[j]? = some (some m') := fun {j m} q => by
      by_cases e : i = j
      · subst e; exact ⟨mo, h1⟩
      · rw [List.getElem?_set_ne e] at q; exact ⟨m, q⟩
    obtain ⟨m1, g1⟩ := back q1
    obtain ⟨m2, g2⟩ := back q2
    exact ok.inj j k b m1 m2 g1 g2 q3 q4
/-! ### all but the tables stays -/
theorem Ext.grow {H1 : Hp} (e : LamX.ExtN W.H H1) : Ext W ⟨H1, W.β, W.h⟩ := ⟨fun b o h n t => ⟨e b o h t, n⟩, fun _ _ e => e⟩
theorem Wd.Ok.grow {H1 : Hp} (ok : W.Ok G) (e : LamX.ExtN W.H H1) (t : LamX.Tabs G.tb H1) : Wd.Ok G ⟨H1, W.β, W.h⟩ := by
  have ex : Ext W ⟨H1, W.β, W.h⟩ := Ext.grow e
  refine ⟨ok.len, fun i mo a h1 h2 => ?_, ok.inj, t⟩
  have q := ok.cont i mo a h1 h2
  cases mo with
  | lst l => obtain ⟨vs, f, r⟩ := q; exact ⟨vs, e _ _ f (fun _ z => by cases z), RTs.ext ex _ _ r⟩
  | dct ks vs => obtain ⟨kvs, f, k, r⟩ := q; exact ⟨kvs, e _ _ f (fun _ z => by cases z), k, RTs.ext ex _ _ r⟩
  | ins c ns vs => obtain ⟨dx, fs, f, k, r⟩ := q; exact ⟨dx, fs, e _ _ f (fun _ z => by cases z), k, RTs.ext ex _ _ r⟩
/-! ### a reference is frozen -/
theorem Ext.frz (i : Nat) : Ext W ⟨W.H, W.β, W.h.set i none⟩ := by
  refine ⟨fun b u e n _ => ⟨e, fun ⟨j, m, q1, q2⟩ => n ⟨j, m, ?_, q2⟩⟩, fun _ _ e => e⟩
  have q1 : (W.h.set i none)[j]? = some (some m) := q1
  by_cases e : i = j
  · subst e
    by_cases hi : i < W.h.length
    · rw [List.getElem?_set_self hi] at q1; cases q1
    · rw [List.getElem?_eq_none (by simp; omega)] at q1; cases q1
  · rw [List.getElem?_set_ne e] at q1; exact q1
theorem frzGet {i j : Nat} {m : MO} (q1 : (W.h.set i none)[j]? = some (some m)) : i ≠ j ∧ W.h[j]? = some (some m) := by
  by_cases e : i = j
  · subst e
    by_cases hi : i < W.h.length
    · rw [List.getElem?_set_self hi] at q1; cases q1
    · rw [List.getElem?_eq_none (by simp; omega)] at q1; cases q1
  · rw [List.getElem?_set_ne e] at q1; exact ⟨e, q1⟩
theorem Wd.Ok.frz (ok : W.Ok G) (i : Nat) : Wd.Ok G ⟨W.H, W.β, W.h.set i none⟩ := by
  have ex : Ext W ⟨W.H, W.β, W.h.set i none⟩ := Ext.frz i
  refine ⟨by show W.β.length = (W.h.set i none).length; simp [ok.len], fun j m b q1 q2 => ?_, fun j k b mj mk q1 q2 q3 q4 => ok.inj j k b mj mk (frzGet q1).2 (frzGet q2).2 q3 q4, ok.tabs⟩
  have q := ok.cont j m b (frzGet q1).2 q2
  cases m with
  | lst l => obtain ⟨vs, e, r⟩ := q; exact ⟨vs, e, RTs.ext ex _ _ r⟩
  | dct ks vs => obtain ⟨kvs, e, k, r⟩ := q; exact ⟨kvs, e, k, RTs.ext ex _ _ r⟩
  | ins c ns vs => obtain ⟨dx, fs, e, k, r⟩ := q; exact ⟨dx, fs, e, k, RTs.ext ex _ _ r⟩
theorem notM_frz {i : Nat} {mo : MO} {a : Addr} (ok : W.Ok G) (h1 : W.h[i]? = some (some mo)) (h2 : W.β[i]? = some a) : ¬ Wd.M ⟨W.H, W.β, W.h.set i none⟩ a := fun ⟨j, m, q1, q2⟩ =>
  (frzGet q1).1 (ok.inj i j a mo m h1 (frzGet q1).2 h2 q2)

/-! ### references below a mark; a call's end -/
mutual
theorem RT.cut {β' : List Addr} {h' : Hm} {n : Nat} (hb : ∀ (i : Nat) a, i < n → W.β[i]? = some a → β'[i]? = some a) (hm : ∀ a, Wd.M ⟨W.H, β', h'⟩ a → W.M a) : ∀ (t : T) (v : V), T.und n t = true → RT G W t v → RT G ⟨W.H, β', h'⟩ t v
  | .non, _, _, h => h
  | .bl _, _, _, h => h
  | .int _, _, _, h => h
  | .str _, _, _, h => h
  | .tup l, v, u, h => by
    obtain ⟨a, vs, q, f, r⟩ := h
    exact ⟨a, vs, q, f.elim (fun z => .inl ⟨z.1, fun k => z.2 (hm _ k)⟩) .inr, RTs.cut hb hm l vs (by simpa [T.und] using u) r⟩
  | .lst l, v, u, h => by
    obtain ⟨a, vs, q, f, r⟩ := h
    exact ⟨a, vs, q, f.elim (fun z => .inl ⟨z.1, fun k => z.2 (hm _ k)⟩) .inr, RTs.cut hb hm l vs (by simpa [T.und] using u) r⟩
  | .dct ks l, v, u, h => by
    obtain ⟨a, kvs, q, rd, n, k, r⟩ := h
    exact ⟨a, kvs, q, rd, fun z => n (hm _ z), k, RTs.cut hb hm l _ (by simp [T.und] at u; exact u.2) r⟩
  | .ins c ns l, v, u, h => by
    obtain ⟨a, dx, fs, q, f, n, k, r⟩ := h
    exact ⟨a, dx, fs, q, f, fun z => n (hm _ z), k, RTs.cut hb hm l _ (by simpa [T.und] using u) r⟩
  | .ref i, v, u, h => by
    obtain ⟨a, b, q⟩ := h
    exact ⟨a, hb i a (by simpa [T.und] using u) b, q⟩
theorem RTs.cut {β' : List Addr} {h' : Hm} {n : Nat} (hb : ∀ (i : Nat) a, i < n → W.β[i]? = some a → β'[i]? = some a) (hm : ∀ a, Wd.M ⟨W.H, β', h'⟩ a → W.M a) : ∀ (ts : List T) (vs : List V), T.unds n ts = true → RTs G W ts vs → RTs G ⟨W.H, β', h'⟩ ts vs
  | [], _, _, h => h
  | t :: ts, vs, u, h => by
    obtain ⟨v, r, q, a, b⟩ := h
    simp only [T.unds, Bool.and_eq_true] at u
    exact ⟨v, r, q, RT.cut hb hm t v u.1 a, RTs.cut hb hm ts r u.2 b⟩
end
theorem unds_keys (n : Nat) : ∀ kvs : List (Key × V), T.unds n (kvs.map fun kv => kT kv.1) = true
  | [] => rfl
  | (.inl _, _) :: r => by simp [T.unds, kT, T.und]; exact unds_keys n r
  | (.inr _, _) :: r => by simp [T.unds, kT, T.und]; exact unds_keys n r
mutual
/-- a tree that is related has its references within -/
theorem RT.undOf {n : Nat} (hn : W.β.length ≤ n) : ∀ (t : T) (v : V), RT G W t v → T.und n t = true
  | .non, _, _ => rfl
  | .bl _, _, _ => rfl
  | .int _, _, _ => rfl
  | .str _, _, _ => rfl
  | .tup l, v, h => by
    obtain ⟨a, vs, q, f, r⟩ := h
    exact RTs.undOf hn l vs r
  | .lst l, v, h => by
    obtain ⟨a, vs, q, f, r⟩ := h
    exact RTs.undOf hn l vs r
  | .dct ks l, v, h => by
    obtain ⟨a, kvs, q, rd, m, k, r⟩ := h
    simp only [T.und, Bool.and_eq_true]
    exact ⟨by rw [k]; exact unds_keys n kvs, RTs.undOf hn l _ r⟩
  | .ins c ns l, v, h => by
    obtain ⟨a, dx, fs, q, f, m, k, r⟩ := h
    exact RTs.undOf hn l _ r
  | .ref i, v, h => by
    obtain ⟨a, b, q⟩ := h
    have := (List.getElem?_eq_some_iff.mp b).1
    simp only [T.und, decide_eq_true_eq]
    omega
theorem RTs.undOf {n : Nat} (hn : W.β.length ≤ n) : ∀ (ts : List T) (vs : List V), RTs G W ts vs → T.unds n ts = true
  | [], _, _ => rfl
  | t :: ts, vs, h => by
    obtain ⟨v, r, q, a, b⟩ := h
    simp only [T.unds, Bool.and_eq_true]
    exact ⟨RT.undOf hn t v a, RTs.undOf hn ts r b⟩
end
mutual
theorem beq_eq : ∀ a b : T, T.beq a b = true → a = b
  | .non, b, h => by cases b <;> simp [T.beq] at h ⊢
  | .bl x, b, h => by cases b <;> simp [T.beq] at h ⊢; exact h
  | .int x, b, h => by cases b <;> simp [T.beq] at h ⊢; exact h
  | .str x, b, h => by cases b <;> simp [T.beq] at h ⊢; exact h
  | .tup x, b, h => by cases b <;> simp [T.beq] at h ⊢; exact beqs_eq _ _ h
  | .lst x, b, h => by cases b <;> simp [T.beq] at h ⊢; exact beqs_eq _ _ h
  | .dct x y, b, h => by cases b <;> simp [T.beq] at h ⊢; exact ⟨beqs_eq _ _ h.1, beqs_eq _ _ h.2⟩
  | .ins x y z, b, h => by cases b <;> simp [T.beq] at h ⊢; exact ⟨h.1.1, h.1.2, beqs_eq _ _ h.2⟩
  | .ref x, b, h => by cases b <;> simp [T.beq] at h ⊢; exact h
theorem beqs_eq : ∀ a b : List T, T.beqs a b = true → a = b
  | [], b, h => by cases b <;> simp [T.beqs] at h ⊢
  | x :: xs, b, h => by
    cases b with
    | nil => simp [T.beqs] at h
    | cons y ys =>
      simp only [T.beqs, Bool.and_eq_true] at h
      rw [beq_eq _ _ h.1, beqs_eq _ _ h.2]
end
theorem mobeq_eq : ∀ a b : MO, MO.beq a b = true → a = b
  | .lst a, .lst b, h => by rw [beqs_eq a b h]
  | .dct a b, .dct c d, h => by
    simp only [MO.beq, Bool.and_eq_true] at h
    rw [beqs_eq _ _ h.1, beqs_eq _ _ h.2]
  | .ins c n a, .ins d m b, h => by
    simp only [MO.beq, Bool.and_eq_true, beq_iff_eq] at h
    rw [h.1.1, h.1.2, beqs_eq _ _ h.2]
  | .lst _, .dct _ _, h => by cases h
  | .lst _, .ins _ _ _, h => by cases h
  | .dct _ _, .lst _, h => by cases h
  | .dct _ _, .ins _ _ _, h => by cases h
  | .ins _ _ _, .lst _, h => by cases h
  | .ins _ _ _, .dct _ _, h => by cases h
theorem slotB_eq : ∀ {a b : Option MO}, slotB a b = true → a = b
  | none, none, _ => rfl
  | some a, some b, h => by rw [mobeq_eq a b h]
  | none, some _, h => by cases h
  | some _, none, h => by cases h
theorem preB_get : ∀ {h h' : Hm} {n i : Nat} {m : MO}, preB n h h' = true → i < h.length → h'[i]? = some (some m) → h[i]? = some (some m) ∨ m.und n = true
  | [], _, _, _, _, _, hi, _ => by simp at hi
  | _ :: _, [], _, _, _, p, _, e => by simp [preB] at p
  | a :: as, b :: bs, n, i, m, p, hi, e => by
    simp only [preB, Bool.and_eq_true, Bool.or_eq_true] at p
    cases i with
    | zero =>
      simp at e
      subst e
      rcases p.1 with q | q
      · have := slotB_eq q
        subst this
        exact .inl rfl
      · exact .inr q
    | succ i =>
      have := preB_get (i := i) (m := m) p.2 (by simpa using hi) (by simpa using e)
      simpa using this
theorem preB_len : ∀ {h h' : Hm} {n : Nat}, preB n h h' = true → h.length ≤ h'.length
  | [], _, _, _ => Nat.zero_le _
  | _ :: _, [], _, p => by simp [preB] at p
  | a :: as, b :: bs, n, p => by
    simp only [preB, Bool.and_eq_true] at p
    simpa using preB_len p.2
/-- behind a call: what was made is forgotten -/
theorem Ext.leave {W₀ W : Wd} (ok0 : W₀.Ok G) (ok : W.Ok G) (ex : Ext W₀ W) (p : preB W₀.h.length W₀.h W.h = true) :
    Wd.Ok G ⟨W.H, W₀.β, W.h.take W₀.h.length⟩ ∧ Ext W₀ ⟨W.H, W₀.β, W.h.take W₀.h.length⟩ ∧ ∀ t v, T.und W₀.h.length t = true → RT G W t v → RT G ⟨W.H, W₀.β, W.h.take W₀.h.length⟩ t v := by
  have hlen := preB_len p
  have l0 := ok0.len
  have l1 := ok.len
  have get : ∀ {i : Nat} {m : MO}, (W.h.take W₀.h.length)[i]? = some (some m) → i < W₀.h.length ∧ W.h[i]? = some (some m) := fun {i m} q => by
    by_cases hi : i < W₀.h.length
    · rw [List.getElem?_take_of_lt hi] at q; exact ⟨hi, q⟩
    · rw [List.getElem?_eq_none (by simp; omega)] at q; cases q
  have hm : ∀ a, Wd.M ⟨W.H, W₀.β, W.h.take W₀.h.length⟩ a → W.M a := fun a ⟨i, m, q1, q2⟩ => ⟨i, m, (get q1).2, ex.bet i a q2⟩
  have hb : ∀ (i : Nat) a, i < W₀.h.length → W.β[i]? = some a → W₀.β[i]? = some a := fun i a hi e => by
    have hi' : i < W₀.β.length := by omega
    have q := ex.bet i W₀.β[i] (List.getElem?_eq_getElem hi')
    rw [e] at q
    cases q
    exact List.getElem?_eq_getElem hi'
  have ex2 : Ext W₀ ⟨W.H, W₀.β, W.h.take W₀.h.length⟩ := ⟨fun a o e n t => ⟨(ex.keep a o e n t).1, fun z => (ex.keep a o e n t).2 (hm a z)⟩, fun _ _ e => e⟩
  refine ⟨⟨by show W₀.β.length = (W.h.take W₀.h.length).length; simp; omega, fun i m a q1 q2 => ?_, fun i j a mi mj q1 q2 q3 q4 => ok.inj i j a mi mj (get q1).2 (get q2).2 (ex.bet i a q3) (ex.bet j a q4), ok.tabs⟩, ex2, fun t v u r => RT.cut hb hm t v u r⟩
  obtain ⟨hi, g1⟩ := get q1
  have q := ok.cont i m a g1 (ex.bet i a q2)
  rcases preB_get p hi g1 with z | z
  · have q0 := ok0.cont i m a z q2
    cases m with
    | lst l =>
      obtain ⟨vs, e, r⟩ := q
      obtain ⟨vs0, e0, r0⟩ := q0
      -- the contents as they were: related in the first world too, but of other values
      exact ⟨vs, e, RTs.cut (n := W₀.h.length) hb hm l vs (by
        exact RTs.undOf (W := W₀) (by omega) l vs0 r0) r⟩
    | dct ks vs =>
      obtain ⟨kvs, e, k, r⟩ := q
      obtain ⟨kvs0, e0, k0, r0⟩ := q0
      exact ⟨kvs, e, k, RTs.cut (n := W₀.h.length) hb hm vs _ (RTs.undOf (W := W₀) (by omega) vs _ r0) r⟩
    | ins c ns vs =>
      obtain ⟨dx, fs, e, k, r⟩ := q
      obtain ⟨dx0, fs0, e0, k0, r0⟩ := q0
      exact ⟨dx, fs, e, k, RTs.cut (n := W₀.h.length) hb hm vs _ (RTs.undOf (W := W₀) (by omega) vs _ r0) r⟩
  · cases m with
    | lst l =>
      obtain ⟨vs, e, r⟩ := q
      exact ⟨vs, e, RTs.cut hb hm l vs (by simpa [MO.und] using z) r⟩
    | dct ks vs =>
      obtain ⟨kvs, e, k, r⟩ := q
      simp only [MO.und, Bool.and_eq_true] at z
      exact ⟨kvs, e, k, RTs.cut hb hm vs _ z.2 r⟩
    | ins c ns vs =>
      obtain ⟨dx, fs, e, k, r⟩ := q
      exact ⟨dx, fs, e, k, RTs.cut hb hm vs _ (by simpa [MO.und] using z) r⟩
/-- .. but for one thing, which is handed out -/
theorem Ext.leaveM {W₀ W : Wd} {j : Nat} {mo : MO} {a : Addr} (ok0 : W₀.Ok G) (ok : W.Ok G) (ex : Ext W₀ W) (p : preB W₀.h.length W₀.h W.h = true) (hj : W.h[j]? = some (some mo)) (hbj : W.β[j]? = some a) (hnj : W₀.h.length ≤ j) (hu : mo.und W₀.h.length = true) :
    Wd.Ok G ⟨W.H, W₀.β ++ [a], W.h.take W₀.h.length ++ [some mo]⟩ ∧ Ext W₀ ⟨W.H, W₀.β ++ [a], W.h.take W₀.h.length ++ [some mo]⟩ := by
  have hlen := preB_len p
  have l0 := ok0.len
  have l1 := ok.len
  have lt : (W.h.take W₀.h.length).length = W₀.h.length := by simp; omega
  have get : ∀ {i : Nat} {m : MO} {b : Addr}, (W.h.take W₀.h.length ++ [some mo])[i]? = some (some m) → (W₀.β ++ [a])[i]? = some b → (i < W₀.h.length ∧ W.h[i]? = some (some m) ∧ W₀.β[i]? = some b) ∨ (i = W₀.h.length ∧ m = mo ∧ b = a) := fun {i m b} q q' => by
    by_cases hi : i < W₀.h.length
    · rw [List.getElem?_append_left (by rw [lt]; exact hi), List.getElem?_take_of_lt hi] at q
      rw [List.getElem?_append_left (by omega)] at q'
      exact .inl ⟨hi, q, q'⟩
    · refine .inr ?_
      rw [List.getElem?_append_right (by rw [lt]; omega), lt] at q
      rw [List.getElem?_append_right (by omega)] at q'
      rcases Nat.eq_zero_or_pos (i - W₀.h.length) with z | z
      · rw [z] at q
        rw [show i - W₀.β.length = 0 by omega] at q'
        simp at q q'
        exact ⟨by omega, q.symm, q'.symm⟩
      · rw [List.getElem?_eq_none (by simp; omega)] at q; cases q
  have hm : ∀ b, Wd.M ⟨W.H, W₀.β ++ [a], W.h.take W₀.h.length ++ [some mo]⟩ b → W.M b := fun b ⟨i, m, q1, q2⟩ => by
    rcases get q1 q2 with ⟨_, g1, g2⟩ | ⟨_, rfl, rfl⟩
    · exact ⟨i, m, g1, ex.bet i b g2⟩
    · exact ⟨j, m, hj, hbj⟩
  have hb : ∀ (i : Nat) b, i < W₀.h.length → W.β[i]? = some b → (W₀.β ++ [a])[i]? = some b := fun i b hi e => by
    have hi' : i < W₀.β.length := by omega
    have q := ex.bet i W₀.β[i] (List.getElem?_eq_getElem hi')
    rw [e] at q
    cases q
    rw [List.getElem?_append_left hi']
    exact List.getElem?_eq_getElem hi'
  have rm : ∀ {m : MO} {b : Addr}, m.und W₀.h.length = true → RM G W m b → RM G ⟨W.H, W₀.β ++ [a], W.h.take W₀.h.length ++ [some mo]⟩ m b := fun {m b} z q => by
    cases m with
    | lst l =>
      obtain ⟨vs, e, r⟩ := q
      exact ⟨vs, e, RTs.cut hb hm l vs (by simpa [MO.und] using z) r⟩
    | dct ks vs =>
      obtain ⟨kvs, e, k, r⟩ := q
      simp only [MO.und, Bool.and_eq_true] at z
      exact ⟨kvs, e, k, RTs.cut hb hm vs _ z.2 r⟩
    | ins c ns vs =>
      obtain ⟨dx, fs, e, k, r⟩ := q
      exact ⟨dx, fs, e, k, RTs.cut hb hm vs _ (by simpa [MO.und] using z) r⟩
  refine ⟨⟨by show (W₀.β ++ [a]).length = (W.h.take W₀.h.length ++ [some mo]).length; rw [List.length_append, List.length_append, lt, l0]; rfl, fun i m b q1 q2 => ?_, fun i k b mi mk q1 q2 q3 q4 => ?_, ok.tabs⟩, ⟨fun b o e n t => ⟨(ex.keep b o e n t).1, fun z => (ex.keep b o e n t).2 (hm b z)⟩, fun i b e => by
    show (W₀.β ++ [a])[i]? = _
    rw [List.getElem?_append_left (List.getElem?_eq_some_iff.mp e).1]
    exact e⟩⟩
  · rcases get q1 q2 with ⟨hi, g1, g2⟩ | ⟨_, rfl, rfl⟩
    · have q := ok.cont i m b g1 (ex.bet i b g2)
      rcases preB_get p hi g1 with z | z
      · refine rm ?_ q
        have q0 := ok0.cont i m b z g2
        cases m with
        | lst l => obtain ⟨vs0, e0, r0⟩ := q0; exact RTs.undOf (W := W₀) (by omega) l vs0 r0
        | dct ks vs =>
          obtain ⟨kvs0, e0, k0, r0⟩ := q0
          simp only [MO.und, Bool.and_eq_true]
          exact ⟨by rw [k0]; exact unds_keys _ kvs0, RTs.undOf (W := W₀) (by omega) vs _ r0⟩
        | ins c ns vs => obtain ⟨dx0, fs0, e0, k0, r0⟩ := q0; exact RTs.undOf (W := W₀) (by omega) vs _ r0
      · exact rm z q
    · exact rm hu (ok.cont j m b hj hbj)
  · rcases get q1 q3 with ⟨hi, g1, g3⟩ | ⟨hi, _, hbi⟩
    · rcases get q2 q4 with ⟨hk, g2, g4⟩ | ⟨hk, _, hbk⟩
      · exact ok.inj i k b mi mk g1 g2 (ex.bet i b g3) (ex.bet k b g4)
      · have := ok.inj i j b mi mo g1 hj (ex.bet i b g3) (hbk ▸ hbj)
        omega
    · rcases get q2 q4 with ⟨hk, g2, g4⟩ | ⟨hk, _, hbk⟩
      · have := ok.inj k j b mk mo g2 hj (ex.bet k b g4) (hbi ▸ hbj)
        omega
      · omega
end
end Tw
end
/-! part Tw2b -/
section
set_option Elab.async false
set_option linter.all false
set_option maxRecDepth 100000
/-! Tw2b: what is wanted behind a run; the operators on trees. -/
namespace Tw
open PySem L2

/-- an exception as the layer tells it -/
def RX (G : Gx) (W : Wd) (c : Nat) (ts : List T) (cls : Value) (d : Option Addr) : Prop := cls = .ref (G.ca c) ∧ d = none
/-- what is wanted of a run from the world W: rel says how a result stands for the layer's -/
def Post {α β : Type} (G : Gx) (rel : Wd → α → β → Prop) (W : Wd) (r : R α) (Q : β → Hp → Prop) (E : XK) : Prop := match r with
  | .ok a h' => ∀ W' b, W'.h = h' → Ext W W' → W'.Ok G → rel W' a b → Q b W'.H
  | .exc c ts h' => ∀ W' cls d, W'.h = h' → Ext W W' → W'.Ok G → RX G W' c ts cls d → E cls d W'.H
  | .bad => False
section
variable {α β γ δ : Type} {G : Gx} {rel : Wd → α → β → Prop} {rel' : Wd → γ → δ → Prop} {W W1 : Wd} {r : R α} {f : α → Hm → R γ} {Q : β → Hp → Prop} {Q' : δ → Hp → Prop} {E : XK}
theorem Post.later (ex : Ext W W1) (p : Post G rel W r Q E) : Post G rel W1 r Q E := by
  cases r with
  | ok a h => exact fun W' b e x o q => p W' b e (ex.trans x) o q
  | exc c ts h => exact fun W' cls d e x o q => p W' cls d e (ex.trans x) o q
  | bad => exact p
theorem Post.mono {Q2 : β → Hp → Prop} (p : Post G rel W r Q E) (h : ∀ b H, Q b H → Q2 b H) : Post G rel W r Q2 E := by
  cases r with
  | ok a h' => exact fun W' b e x o q => h _ _ (p W' b e x o q)
  | exc c ts h' => exact p
  | bad => exact p
theorem Post.seq (p : Post G rel' W (r.bind f) Q' E) : Post G rel W r (fun b H1 => ∃ W1 a, W1.H = H1 ∧ Ext W W1 ∧ W1.Ok G ∧ rel W1 a b ∧ Post G rel' W1 (f a W1.h) Q' E) E := by
  cases r with
  | ok a h => exact fun W' b e x o q => ⟨W', a, rfl, x, o, q, by rw [e]; exact Post.later x p⟩
  | exc c ts h => exact p
  | bad => exact p
theorem Post.here {a : α} {b : β} (ok : W.Ok G) (p : Post G rel W (.ok a W.h) Q E) (q : rel W a b) : Q b W.H := p W b rfl (Ext.refl W) ok q
theorem Post.of_ofO {o : Option α} (p : Post G rel W (ofO o W.h) Q E) : ∃ a, o = some a ∧ Post G rel W (.ok a W.h) Q E := by
  cases o with
  | none => exact False.elim p
  | some a => exact ⟨a, rfl, p⟩
theorem Post.of_bindO {o : Option α} (p : Post G rel' W ((ofO o W.h).bind f) Q' E) : ∃ a, o = some a ∧ Post G rel' W (f a W.h) Q' E := by
  cases o with
  | none => exact False.elim p
  | some a => exact ⟨a, rfl, p⟩
end
abbrev PostE (G : Gx) := Post G (RT G)
abbrev PostA (G : Gx) := Post G (RTs G)
abbrev PostB (G : Gx) := Post (α := Bool) (β := Bool) G (fun _ a b => a = b)

/-! ### a tree as it is looked at -/
def LT (G : Gx) (W : Wd) : T → V → Prop
  | .lst l, v => ∃ a vs, v = .ref a ∧ SqL G.K W.H a vs ∧ RTs G W l vs
  | .tup l, v => ∃ a vs, v = .ref a ∧ FzT G.K W a vs ∧ RTs G W l vs
  | .dct ks vs, v => ∃ a kvs, v = .ref a ∧ W.H a = some (.dK kvs) ∧ ks = kvs.map (fun kv => kT kv.1) ∧ RTs G W vs (kvs.map (·.2))
  | .ins c ns vs, v => ∃ a dx fs, v = .ref a ∧ W.H a = some (.ins (G.ca c) dx fs) ∧ fs.map (·.1) = ns.map G.fnm ∧ RTs G W vs (fs.map (·.2))
  | .non, v => v = .non
  | .bl b, v => v = .bl b
  | .int i, v => v = .int i
  | .str s, v => v = .str (tx s) ∧ s.length ≤ sizeLine
  | .ref i, v => ∃ a, W.β[i]? = some a ∧ v = .ref a
section
variable {G : Gx} {W : Wd}
theorem RT.lt : ∀ {t : T} {v : V}, RT G W t v → LT G W t v
  | .non, _, h => h
  | .bl _, _, h => h
  | .int _, _, h => h
  | .str _, _, h => h
  | .tup _, _, h => h
  | .lst _, _, h => let ⟨a, vs, e, f, r⟩ := h; ⟨a, vs, e, f.sq, r⟩
  | .dct _ _, _, h => let ⟨a, vs, e, f, _, k, r⟩ := h; ⟨a, vs, e, f, k, r⟩
  | .ins _ _ _, _, h => let ⟨a, dx, fs, e, f, _, k, r⟩ := h; ⟨a, dx, fs, e, f, k, r⟩
  | .ref _, _, h => h
theorem look_LT {t : T} {v : V} (ok : W.Ok G) (h : RT G W t v) : LT G W (look W.h t) v := by
  cases t with
  | ref i =>
    obtain ⟨a, e, rfl⟩ := id h
    have go : ∀ o, W.h[i]? = o → LT G W (match o with
      | some (some (.lst l)) => .lst l
      | some (some (.dct ks vs)) => .dct ks vs
      | some (some (.ins c ns vs)) => .ins c ns vs
      | _ => .ref i) (V.ref a) := fun o q => by
      cases o with
      | none => exact h
      | some o =>
        cases o with
        | none => exact h
        | some mo =>
          have c := ok.cont i mo a q e
          cases mo with
          | lst l => obtain ⟨vs, k, r⟩ := c; exact ⟨a, vs, rfl, .of k, r⟩
          | dct ks vs => obtain ⟨kvs, k, z, r⟩ := c; exact ⟨a, kvs, rfl, k, z, r⟩
          | ins c ns vs => obtain ⟨dx, fs, k, z, r⟩ := c; exact ⟨a, dx, fs, rfl, k, z, r⟩
    exact go _ rfl
  | _ => exact h.lt

/-! ### made containers -/
theorem mk_lst {m : Bool} {l : List T} {Q : VK} {E : XK} {vs : List V} (ok : W.Ok G) (p : PostE G W (mk m (.lst l) W.h) Q E) (r : RTs G W l vs) : ∀ q, W.H q = none → Q (.ref q) (upd W.H q (.lst vs)) := fun q hq => by
  cases m with
  | false =>
    have p : PostE G W (.ok (.lst l) W.h) Q E := p
    exact p ⟨upd W.H q (.lst vs), W.β, W.h⟩ _ rfl (.new hq) (ok.new hq) ⟨q, vs, rfl, .inl ⟨.of upd_same, fun z => ok.notM hq z⟩, RTs.ext (.new hq) _ _ r⟩
  | true =>
    have p : PostE G W (.ok (.ref W.h.length) (W.h ++ [some (.lst l)])) Q E := p
    have ex : Ext W ⟨upd W.H q (.lst vs), W.β ++ [q], W.h ++ [some (.lst l)]⟩ := Ext.newM ok hq
    exact p ⟨upd W.H q (.lst vs), W.β ++ [q], W.h ++ [some (.lst l)]⟩ _ rfl ex (ok.newM (mo := .lst l) hq ⟨vs, upd_same, RTs.ext ex _ _ r⟩) ⟨q, by show (W.β ++ [q])[W.h.length]? = _; rw [← ok.len]; simp, rfl⟩
theorem mk_tup {m : Bool} {l : List T} {Q : VK} {E : XK} {vs : List V} (ok : W.Ok G) (p : PostE G W (mk m (.tup l) W.h) Q E) (r : RTs G W l vs) : ∀ q, W.H q = none → Q (.ref q) (upd W.H q (.tup vs)) := fun q hq => by
  cases m with
  | false =>
    have p : PostE G W (.ok (.tup l) W.h) Q E := p
    exact p ⟨upd W.H q (.tup vs), W.β, W.h⟩ _ rfl (.new hq) (ok.new hq) ⟨q, vs, rfl, .inl ⟨.of upd_same, fun z => ok.notM hq z⟩, RTs.ext (.new hq) _ _ r⟩
  | true => exact False.elim p
theorem mk_dct0 {m : Bool} {Q : VK} {E : XK} (ok : W.Ok G) (p : PostE G W (mk m (.dct [] []) W.h) Q E) : ∀ q, W.H q = none → Q (.ref q) (upd W.H q (.dK [])) := fun q hq => by
  cases m with
  | false =>
    have p : PostE G W (.ok (.dct [] []) W.h) Q E := p
    exact p ⟨upd W.H q (.dK []), W.β, W.h⟩ _ rfl (.new hq) (ok.new hq) ⟨q, [], rfl, upd_same, fun z => ok.notM hq z, rfl, rfl⟩
  | true =>
    have p : PostE G W (.ok (.ref W.h.length) (W.h ++ [some (.dct [] [])])) Q E := p
    have ex : Ext W ⟨upd W.H q (.dK []), W.β ++ [q], W.h ++ [some (.dct [] [])]⟩ := Ext.newM ok hq
    exact p ⟨upd W.H q (.dK []), W.β ++ [q], W.h ++ [some (.dct [] [])]⟩ _ rfl ex (ok.newM (mo := .dct [] []) hq ⟨[], upd_same, rfl, rfl⟩) ⟨q, by show (W.β ++ [q])[W.h.length]? = _; rw [← ok.len]; simp, rfl⟩
theorem mk_tup' {m : Bool} {l : List T} {Q : VK} {E : XK} {a : Addr} {vs : List V} (ok : W.Ok G) (p : PostE G W (mk m (.tup l) W.h) Q E) (f : FzT G.K W a vs) (r : RTs G W l vs) : Q (.ref a) W.H := by
  cases m with
  | false => exact Post.here ok (show PostE G W (.ok (.tup l) W.h) Q E from p) ⟨a, vs, rfl, f, r⟩
  | true => exact False.elim p
/-- an atom, made or not -/
theorem mk_at {m : Bool} {t : T} {v : V} {Q : VK} {E : XK} (ok : W.Ok G) (p : PostE G W (mk m t W.h) Q E) (r : RT G W t v) (hl : ∀ l, t ≠ .lst l) (hd : ∀ ks vs, t ≠ .dct ks vs) : Q v W.H := by
  cases m with
  | false => exact Post.here ok (show PostE G W (.ok t W.h) Q E from p) r
  | true => cases t <;> first | exact False.elim p | exact absurd rfl (hl _) | exact absurd rfl (hd _ _)

/-! ### data, for == and in -/
mutual
def toD : T → PyData
  | .non => .none
  | .bl b => .bool b
  | .int i => .int i
  | .str s => .str (tx s)
  | .tup l => .tuple (toDs l)
  | .lst l => .list (toDs l)
  | .dct _ _ => .none
  | .ins _ _ _ => .none
  | .ref _ => .none
def toDs : List T → List PyData
  | [] => []
  | t :: ts => toD t :: toDs ts
end
mutual
theorem plain_toD : ∀ (n : Nat) (t : T), T.pl n t = true → (toD t).plain = true
  | _, .non, _ => rfl
  | _, .bl _, _ => rfl
  | _, .int _, _ => rfl
  | _, .str _, _ => rfl
  | 0, .tup _, h => by simp [T.pl] at h
  | 0, .lst _, h => by simp [T.pl] at h
  | n + 1, .tup l, h => plains_toD n l (by simpa [T.pl] using h)
  | n + 1, .lst l, h => plains_toD n l (by simpa [T.pl] using h)
  | n, .dct _ _, h => by cases n <;> simp [T.pl] at h
  | n, .ins _ _ _, h => by cases n <;> simp [T.pl] at h
  | n, .ref _, h => by cases n <;> simp [T.pl] at h
theorem plains_toD : ∀ (n : Nat) (ts : List T), T.pls n ts = true → PyData.plainAll (toDs ts) = true
  | _, [], _ => rfl
  | n, t :: ts, h => by
    simp only [T.pls, Bool.and_eq_true] at h
    simp only [toDs, PyData.plainAll, plain_toD n t h.1, plains_toD n ts h.2, Bool.and_self]
end
mutual
theorem depth_toD : ∀ (n : Nat) (t : T), T.pl n t = true → (toD t).depth ≤ n
  | _, .non, _ => Nat.zero_le _
  | _, .bl _, _ => Nat.zero_le _
  | _, .int _, _ => Nat.zero_le _
  | _, .str _, _ => Nat.zero_le _
  | 0, .tup _, h => by simp [T.pl] at h
  | 0, .lst _, h => by simp [T.pl] at h
  | n + 1, .tup l, h => by simp only [toD, PyData.depth]; exact Nat.succ_le_succ (depths_toD n l (by simpa [T.pl] using h))
  | n + 1, .lst l, h => by simp only [toD, PyData.depth]; exact Nat.succ_le_succ (depths_toD n l (by simpa [T.pl] using h))
  | n, .dct _ _, h => by cases n <;> simp [T.pl] at h
  | n, .ins _ _ _, h => by cases n <;> simp [T.pl] at h
  | n, .ref _, h => by cases n <;> simp [T.pl] at h
theorem depths_toD : ∀ (n : Nat) (ts : List T), T.pls n ts = true → PyData.depthAll (toDs ts) ≤ n
  | _, [], _ => Nat.zero_le _
  | n, t :: ts, h => by
    simp only [T.pls, Bool.and_eq_true] at h
    simp only [toDs, PyData.depthAll]
    exact Nat.max_le.mpr ⟨depth_toD n t h.1, depths_toD n ts h.2⟩
end
theorem tx_beq (a b : List Nat) : (tx a == tx b) = (a == b) := by
  rw [Bool.eq_iff_iff, beq_iff_eq, beq_iff_eq]
  exact ⟨fun e => by simpa [tx] using e, fun e => by rw [e]⟩
mutual
theorem eqv_toD : ∀ (n m : Nat) (a b : T), T.pl n a = true → T.pl m b = true → PyData.eqv (toD a) (toD b) = T.eqv a b
  | n, m, .non, b, _, h => by cases b <;> first | (cases m <;> simp [T.pl] at h; done) | simp [toD, PyData.eqv, T.eqv]
  | n, m, .bl x, b, _, h => by cases b <;> first | (cases m <;> simp [T.pl] at h; done) | simp [toD, PyData.eqv, T.eqv]
  | n, m, .int x, b, _, h => by cases b <;> first | (cases m <;> simp [T.pl] at h; done) | simp [toD, PyData.eqv, T.eqv]
  | n, m, .str x, b, _, h => by cases b <;> first | (cases m <;> simp [T.pl] at h; done) | simp only [toD, PyData.eqv, T.eqv, tx_beq]
  | 0, _, .tup _, _, h, _ => by simp [T.pl] at h
  | 0, _, .lst _, _, h, _ => by simp [T.pl] at h
  | n + 1, m, .tup x, b, g, h => by
    cases b <;> first
      | (cases m <;> simp [T.pl] at h; done)
      | (simp [toD, PyData.eqv, T.eqv]; done)
      | (cases m with
        | zero => simp [T.pl] at h
        | succ m => simp only [toD, PyData.eqv, T.eqv]; exact eqvs_toD n m _ _ (by simpa [T.pl] using g) (by simpa [T.pl] using h))
  | n + 1, m, .lst x, b, g, h => by
    cases b <;> first
      | (cases m <;> simp [T.pl] at h; done)
      | (simp [toD, PyData.eqv, T.eqv]; done)
      | (cases m with
        | zero => simp [T.pl] at h
        | succ m => simp only [toD, PyData.eqv, T.eqv]; exact eqvs_toD n m _ _ (by simpa [T.pl] using g) (by simpa [T.pl] using h))
  | n, _, .dct _ _, _, h, _ => by cases n <;> simp [T.pl] at h
  | n, _, .ins _ _ _, _, h, _ => by cases n <;> simp [T.pl] at h
  | n, _, .ref _, _, h, _ => by cases n <;> simp [T.pl] at h
theorem eqvs_toD : ∀ (n m : Nat) (a b : List T), T.pls n a = true → T.pls m b = true → PyData.eqvAll (toDs a) (toDs b) = T.eqvs a b
  | _, _, [], b, _, _ => by cases b <;> simp [toDs, PyData.eqvAll, T.eqvs]
  | n, m, x :: xs, b, g, h => by
    cases b with
    | nil => simp [toDs, PyData.eqvAll, T.eqvs]
    | cons y ys =>
      simp only [T.pls, Bool.and_eq_true] at g h
      simp only [toDs, PyData.eqvAll, T.eqvs]
      rw [eqv_toD n m x y g.1 h.1, eqvs_toD n m xs ys g.2 h.2]
end
mutual
theorem dp_of : ∀ (n : Nat) (t : T) (v : V), T.pl n t = true → RT G W t v → Dp G.K W.H v (toD t)
  | _, .non, v, _, h => by cases h; exact .non
  | _, .bl _, v, _, h => by cases h; exact .bl _
  | _, .int _, v, _, h => by cases h; exact .int _
  | _, .str _, v, _, h => by obtain ⟨rfl, _⟩ := h; exact .str _
  | 0, .tup _, _, h, _ => by simp [T.pl] at h
  | 0, .lst _, _, h, _ => by simp [T.pl] at h
  | n + 1, .tup l, v, h, r => by
    obtain ⟨a, vs, rfl, f, r⟩ := r
    exact .tup f.sq (dps_of n l vs (by simpa [T.pl] using h) r)
  | n + 1, .lst l, v, h, r => by
    obtain ⟨a, vs, rfl, f, r⟩ := r
    exact .lst f.sq (dps_of n l vs (by simpa [T.pl] using h) r)
  | n, .dct _ _, _, h, _ => by cases n <;> simp [T.pl] at h
  | n, .ins _ _ _, _, h, _ => by cases n <;> simp [T.pl] at h
  | n, .ref _, _, h, _ => by cases n <;> simp [T.pl] at h
theorem dps_of : ∀ (n : Nat) (ts : List T) (vs : List V), T.pls n ts = true → RTs G W ts vs → DpAll G.K W.H vs (toDs ts)
  | _, [], _, _, h => by cases h; exact .nil
  | n, t :: ts, vs, g, h => by
    obtain ⟨v, r, rfl, a, b⟩ := h
    simp only [T.pls, Bool.and_eq_true] at g
    exact .cons (dp_of n t v g.1 a) (dps_of n ts r g.2 b)
end
theorem dp_look {n : Nat} {t : T} {v : V} (h : T.pl n t = true) (r : LT G W t v) : Dp G.K W.H v (toD t) := by
  cases t with
  | tup l =>
    cases n with
    | zero => simp [T.pl] at h
    | succ n =>
      obtain ⟨a, vs, rfl, f, r⟩ := r
      exact .tup f.sq (dps_of n l vs (by simpa [T.pl] using h) r)
  | lst l =>
    cases n with
    | zero => simp [T.pl] at h
    | succ n =>
      obtain ⟨a, vs, rfl, f, r⟩ := r
      exact .lst f (dps_of n l vs (by simpa [T.pl] using h) r)
  | non => cases r; exact .non
  | bl _ => cases r; exact .bl _
  | int _ => cases r; exact .int _
  | str _ => obtain ⟨rfl, _⟩ := r; exact .str _
  | dct _ _ => cases n <;> simp [T.pl] at h
  | ins _ _ _ => cases n <;> simp [T.pl] at h
  | ref _ => cases n <;> simp [T.pl] at h
theorem any_toD {n m : Nat} {x : T} (hx : T.pl m x = true) : ∀ l : List T, T.pls n l = true → (toDs l).any (fun y => PyData.eqv y (toD x)) = l.any fun y => T.eqv y x
  | [], _ => rfl
  | y :: ys, h => by
    simp only [T.pls, Bool.and_eq_true] at h
    simp only [toDs, List.any_cons, eqv_toD n m y x h.1 hx, any_toD hx ys h.2]
end
end Tw
end
/-! part Tw2c -/
section
set_option Elab.async false
set_option linter.all false
set_option maxRecDepth 100000
/-! Tw2c: the operators by values. -/
namespace Tw
open PySem PySem.Spec PyProof.Rows L2
def opS : Op → Operator
  | .add => .Add | .sub => .Sub | .mul => .Mult | .mod => .Mod | .fdiv => .FloorDiv | .pow => .Pow
def cmS : Cm → CmpOp
  | .eq => .Eq | .ne => .NotEq | .lt => .Lt | .le => .LtE | .gt => .Gt | .ge => .GtE | .is_ => .Is | .isnt => .IsNot | .in_ => .In | .nin => .NotIn
theorem lim_line {n : Nat} (h : n ≤ lim) : n ≤ sizeLine := Nat.le_trans h (by decide)
theorem lim_line' {n : Nat} (h : n < lim) : n < sizeLine := Nat.lt_of_lt_of_le h (by decide)
section
variable {G : Gx} {X : Cx} {E : XK} {pins : List (Addr × Obj)} {σ : L2.St} {H : Hp} {s : Shared}
theorem tx_len (a : List Nat) : (tx a).length = a.length := by simp [tx, PySem.Str.length]
theorem tx_app (a b : List Nat) : tx a ++ tx b = tx (a ++ b) := by
  show PySem.Str.append _ _ = _
  simp [PySem.Str.append, tx]
theorem Inv_lst {a : Addr} {xs : List V} (I : L2.Inv X pins σ H s) (h : SqL X.K H a xs) :
    xs.length ≤ sizeLine ∧ ∃ (its : List Value) (n : Nat) (sl : Array (Option Value)), Vals xs its ∧ xs.length = its.length ∧ s.heap.get? a = some { cls := .type "list", dict := none, data := .seq its.toArray n, slots := sl } := by
  obtain ⟨its, r, ⟨⟨c, d, dt, sl⟩, n, e, hc, hd, hs⟩, z⟩ := I.list h
  simp only at hc hd hs
  subst hc hd hs
  exact ⟨z, its, n, sl, r, r.length, e⟩

/-! ### list + list, list * int, tuples, texts -/
theorem op_catL : OpR X (binaryOp .Add) (fun x y H Q => ∃ l b xs zs, x = .ref l ∧ y = .ref b ∧ SqL X.K H l xs ∧ SqL X.K H b zs ∧ xs.length + zs.length ≤ sizeLine ∧ ∀ p, H p = none → Q (.ref p) (upd H p (.lst (xs ++ zs)))) := by
  intro pins s σ H x y v u Q I rx ry h
  obtain ⟨l, b, xs, zs, rfl, rfl, hH, hB, hz, q⟩ := h
  cases rx
  cases ry
  obtain ⟨z, its, n, sl, r, hl, e⟩ := Inv_lst I hH
  obtain ⟨z2, its2, n2, sl2, r2, hl2, e2⟩ := Inv_lst I hB
  refine concat_meets ⟨_, e, rfl⟩ ⟨_, e2, rfl⟩ noFill_list_add seq_list_add F.slot_list_add F.entry_list_add (F.args_list_add_2 _ _) (list_addW l b its.toArray its2.toArray n n2 none none sl sl2 (by simp only [List.size_toArray]; omega)) ⟨e, e2, ?_⟩
  rw [show its.toArray ++ its2.toArray = (its ++ its2).toArray from by simp]
  exact ⟨.ref _, _, I.lnew (t' := s.toks) (r.append r2) (by rw [List.length_append]; omega), rfl, q _ I.fresh⟩
theorem rep_fold (its : List Value) (m : Nat) : (List.replicate m its.toArray).foldl (fun a b => a ++ b) #[] = (List.replicate m its).flatten.toArray := by
  have := foldl_rep its m []
  rwa [List.nil_append] at this
theorem op_repL : OpR X (binaryOp .Mult) (fun x y H Q => ∃ l k xs, x = .ref l ∧ y = .int k ∧ SqL X.K H l xs ∧ -(2 ^ 63) ≤ k ∧ k < 2 ^ 63 ∧ xs.length * k.toNat ≤ sizeLine ∧ ∀ p, H p = none → Q (.ref p) (upd H p (.lst (List.replicate k.toNat xs).flatten))) := by
  intro pins s σ H x y v u Q I rx ry h
  obtain ⟨l, k, xs, rfl, rfl, hH, h1, h2, hz, q⟩ := h
  cases rx
  obtain ⟨t, rfl⟩ := ry
  obtain ⟨z, its, n, sl, r, hl, e⟩ := Inv_lst I hH
  have hlen : its.toArray.size * k.toNat ≤ sizeLine := by simp only [List.size_toArray]; rw [← hl]; exact hz
  have hfit : ¬ (!Builtin.List.listFitsIndex k) = true := by rw [fitsIndex_both h1 h2]; exact Bool.false_ne_true
  have hcap : ¬ its.toArray.size * k.toNat > (2 ^ 63 - 1) / 8 := by
    have : (sizeLine : Nat) ≤ (2 ^ 63 - 1) / 8 := by decide
    omega
  have hlong : ¬ Builtin.List.listTooLong (its.toArray.size * k.toNat) = true := by rw [notLongL hlen]; exact Bool.false_ne_true
  refine wpAny_binaryOp_repeat_ref (T := "list") (U := "int") (by decide) ⟨_, e, rfl⟩ (fun s' => typeIs_int s' k t) noFill_list_mul F.fills_int_mul F.slot_int_rmul repeat_list F.slot_int_index.lookup
    (call_meets F.slot_int_rmul (typeIs_int s k t) F.entry_int_rmul (F.args_int_rmul_2 _ _) (lm_int_rmul_list_any k t l its.toArray n none sl)
      ⟨e, rfl, ⟨_, e, rfl⟩, call_meets F.slot_list_mul ⟨_, e, rfl⟩ F.entry_list_mul (F.args_list_mul_2 _ _) (lm_list_mul_any l its.toArray n none sl k t hfit hcap hlong) ⟨e, ?_⟩⟩)
  rw [show List.foldl (fun x1 x2 => x1 ++ x2) #[] (List.replicate (if its.toArray.isEmpty = true then 0 else k.toNat) its.toArray) = (List.replicate k.toNat its).flatten.toArray from by
    rw [rep_fold]
    cases its with
    | nil => simp
    | cons a r' => rw [if_neg (by simp)]]
  exact ⟨.ref _, _, I.lnew (t' := s.toks) (r.rep k.toNat) (by rw [PyProof.Rows.lm_len_rep_flat, Nat.mul_comm]; exact hz), rfl, q _ I.fresh⟩
theorem fold_cps (x : Array Nat) : ∀ m : Nat, (List.replicate m x).foldl (fun a b => a ++ b) #[] = (List.replicate m x.toList).flatten.toArray := fun m => by
  have go : ∀ (m : Nat) (acc : Array Nat), (List.replicate m x).foldl (fun a b => a ++ b) acc = acc ++ (List.replicate m x.toList).flatten.toArray := by
    intro m
    induction m with
    | zero => intro acc; simp
    | succ m ih =>
      intro acc
      rw [List.replicate_succ, List.foldl_cons, ih, List.replicate_succ, List.flatten_cons]
      rw [← Array.toList_inj]
      simp
  rw [go]
  simp
theorem op_repS : OpR X (binaryOp .Mult) (fun x y H Q => ∃ (a : List Nat) (k : Int), x = .str (tx a) ∧ y = .int k ∧ -(2 ^ 63) ≤ k ∧ k ≤ 1000000 ∧ a.length * k.toNat ≤ sizeLine ∧ Q (.str (tx (rep a k))) H) := by
  intro pins s σ H x y v u Q I rx ry h
  obtain ⟨a, k, rfl, rfl, h1, h2, hz, q⟩ := h
  obtain ⟨t, rfl⟩ := rx
  obtain ⟨t', rfl⟩ := ry
  have hl : (tx a).length = a.length := tx_len a
  have sl := sizeLine_eq
  refine PySem.P.mul_str (by rw [decide_eq_false (by omega), decide_eq_false (by omega)]; rfl) (fun hk _ => ?_) (fun hk _ => ?_) ?_
  · rw [hl]
    have : (a.length : Int) * k ≤ sizeLine := by
      have e : ((a.length * k.toNat : Nat) : Int) = (a.length : Int) * k := by rw [Int.natCast_mul, Int.toNat_of_nonneg (by omega)]
      omega
    intro hgt
    have h3 : (2 ^ 63 - 1) / k < (a.length : Int) := hgt
    have h4 : (2 ^ 63 - 1 : Int) < (a.length : Int) * k := Int.lt_mul_of_ediv_lt (by omega) h3
    omega
  · rw [hl]
    unfold Builtin.Str.tooLong
    simp only [decide_eq_false_iff_not]
    first | omega | (rw [sizeLine_eq] at hz ⊢; omega)
  · by_cases hk : k < 1
    · rw [if_pos hk]
      have e0 : rep a k = [] := by unfold rep; rw [show k.toNat = 0 by omega]; rfl
      rw [e0] at q
      exact ⟨by decide, .str _, H, I.tok _, ⟨_, rfl⟩, q⟩
    · rw [if_neg hk]
      by_cases h3 : (k == 1 || (tx a).length == 0) = true
      · rw [if_pos h3]
        have e0 : rep a k = a := by
          unfold rep
          rw [Bool.or_eq_true, beq_iff_eq, beq_iff_eq] at h3
          rcases h3 with h3 | h3
          · subst h3; simp
          · rw [hl] at h3
            have : a = [] := List.eq_nil_of_length_eq_zero h3
            subst this
            simp
        rw [e0] at q
        exact ⟨.str (tx a), H, I, ⟨t, rfl⟩, q⟩
      · rw [if_neg h3]
        have e0 : (⟨(List.replicate k.toNat (tx a).cps).foldl (fun a b => a ++ b) #[]⟩ : PySem.Str) = tx (rep a k) := by
          rw [fold_cps]
          simp [tx, rep]
        have e1 : (tx (rep a k)).length ≤ sizeLine := by
          rw [tx_len]
          unfold rep
          rw [PyProof.Rows.lm_len_rep_flat, Nat.mul_comm]
          exact hz
        refine show Made.post (Made.str ⟨(List.replicate k.toNat (tx a).cps).foldl (fun a b => a ++ b) #[]⟩) (EP X pins σ Q) s from ?_
        rw [e0]
        exact ⟨e1, .str _, H, I.tok _, ⟨_, rfl⟩, q⟩
theorem op_mulIB : OpR X (binaryOp .Mult) (fun x y H Q => ∃ (i : Int) (b : Bool), x = .int i ∧ y = .bl b ∧ Q (.int (if b then i else 0)) H) := by
  intro pins s σ H x y v u Q I rx ry h
  obtain ⟨i, b, rfl, rfl, q⟩ := h
  obtain ⟨t, rfl⟩ := rx
  cases (show u = Value.bool b from ry)
  refine PySem.IntBool.mul_int_bool ⟨.int _, H, I.tok _, ⟨_, rfl⟩, ?_⟩
  have e : (i * if b = true then (1 : Int) else 0) = if b = true then i else 0 := by cases b <;> simp
  rw [e]
  exact q
theorem op_powG : OpR X (binaryOp .Pow) (fun x y H Q => ∃ i j : Int, x = .int i ∧ y = .int j ∧ powOk i j = true ∧ Q (.int (i ^ j.toNat)) H) := by
  intro pins s σ H x y v u Q I rx ry h
  obtain ⟨i, j, rfl, rfl, hc, q⟩ := h
  obtain ⟨t, rfl⟩ := rx
  obtain ⟨t', rfl⟩ := ry
  simp only [powOk, Bool.and_eq_true, decide_eq_true_eq] at hc
  obtain ⟨⟨h0, h1⟩, h2⟩ := hc
  have hb := PyProof.Rows.intBits_le (a := i) (k := 200) h2
  refine PyProof.Rows.pow_int h0 ?_ ⟨.int _, H, I.tok _, ⟨_, rfl⟩, q⟩
  have : (Builtin.Int.intBits i : Int) * j ≤ 200 * j := Int.mul_le_mul_of_nonneg_right (by omega) h0
  omega

/-! ### a binary operator on trees -/
/-- what an operator asks: two related trees, and what follows from the evaluator's answer -/
def rBin (G : Gx) (m : Bool) (op : Op) (E : XK) : R2 := fun x y H Q => ∃ W t u, W.H = H ∧ W.Ok G ∧ RT G W t x ∧ RT G W u y ∧ PostE G W ((ofO (opO op (look W.h t) (look W.h u)) W.h).bind fun r h => mk m r h) Q E
theorem binR (hK : X.K = G.K) (m : Bool) (op : Op) : OpR X (binaryOp (opS op)) (rBin G m op E) := by
  intro pins s σ H x y v u Q I rx ry h
  obtain ⟨W, t, t', rfl, ok, r1, r2, p⟩ := h
  obtain ⟨r, e, p⟩ := p.of_bindO
  have l1 := look_LT ok r1
  have l2 := look_LT ok r2
  generalize look W.h t = a at e l1
  generalize look W.h t' = b at e l2
  have noI : ∀ {i : Int}, PostE G W (mk m (.int i) W.h) Q E → Q (.int i) W.H := fun {i} p => mk_at (G := G) (W := W) (m := m) (t := .int i) ok p rfl (fun _ z => nomatch z) (fun _ _ z => nomatch z)
  have noS : ∀ {z : List Nat}, z.length ≤ sizeLine → PostE G W (mk m (.str z) W.h) Q E → Q (.str (tx z)) W.H := fun {z} hz p => mk_at (G := G) (W := W) (m := m) (t := .str z) ok p ⟨rfl, hz⟩ (fun _ z => nomatch z) (fun _ _ z => nomatch z)
  cases op with
  | add =>
    unfold opO at e
    split at e <;> try contradiction
    · cases e; cases l1; cases l2
      exact op_add pins s σ W.H _ _ v u Q I rx ry ⟨_, _, rfl, rfl, noI p⟩
    · split at e <;> try contradiction
      rename_i hz
      cases e
      obtain ⟨rfl, _⟩ := l1
      obtain ⟨rfl, _⟩ := l2
      exact op_add_str pins s σ W.H _ _ v u Q I rx ry ⟨_, _, rfl, rfl, by rw [tx_len, tx_len]; exact lim_line hz, by rw [tx_app]; exact noS (by rw [List.length_append]; exact lim_line hz) p⟩
    · split at e <;> try contradiction
      rename_i hz
      cases e
      obtain ⟨a1, vs, rfl, f1, q1⟩ := l1
      obtain ⟨a2, ws, rfl, f2, q2⟩ := l2
      exact op_catL pins s σ W.H _ _ v u Q I rx ry ⟨a1, a2, vs, ws, rfl, rfl, hK ▸ f1, hK ▸ f2, by rw [← q1.length, ← q2.length]; exact lim_line hz, mk_lst ok p (RTs.append q1 q2)⟩
    · split at e <;> try contradiction
      rename_i hz
      cases e
      obtain ⟨a1, vs, rfl, f1, q1⟩ := l1
      obtain ⟨a2, ws, rfl, f2, q2⟩ := l2
      refine op_catA pins s σ W.H _ _ v u Q I rx ry ⟨a1, a2, vs, ws, rfl, rfl, hK ▸ f1.sq, hK ▸ f2.sq, by rw [← q1.length, ← q2.length]; exact lim_line hz, fun z => ?_, fun _ z => ?_, fun _ _ => mk_tup ok p (RTs.append q1 q2)⟩
      · have z' := (RTs.nil_iff q1).mpr z
        subst z'
        exact mk_tup' ok p f2 q2
      · have z' := (RTs.nil_iff q2).mpr z
        subst z'
        rw [List.append_nil] at p
        exact mk_tup' ok p f1 q1
  | sub =>
    unfold opO at e
    split at e <;> try contradiction
    cases e; cases l1; cases l2
    exact op_sub pins s σ W.H _ _ v u Q I rx ry ⟨_, _, rfl, rfl, noI p⟩
  | mul =>
    unfold opO at e
    split at e <;> try contradiction
    · split at e <;> try contradiction
      rename_i hz
      cases e; cases l1; cases l2
      refine op_mul pins s σ W.H _ _ v u Q I rx ry ⟨_, _, rfl, rfl, ?_, noI p⟩
      simpa [mulOk, CMul] using hz
    · split at e <;> try contradiction
      rename_i hz
      cases e; cases l2
      obtain ⟨rfl, _⟩ := l1
      exact op_repS pins s σ W.H _ _ v u Q I rx ry ⟨_, _, rfl, rfl, by omega, hz.2.1, lim_line hz.1, noS (by unfold rep; rw [PyProof.Rows.lm_len_rep_flat, Nat.mul_comm]; exact lim_line hz.1) p⟩
    · split at e <;> try contradiction
      rename_i hz
      cases e; cases l2
      obtain ⟨a1, vs, rfl, f1, q1⟩ := l1
      exact op_repL pins s σ W.H _ _ v u Q I rx ry ⟨a1, _, vs, rfl, rfl, hK ▸ f1, by omega, by omega, by rw [← q1.length]; exact lim_line hz.1, mk_lst ok p (RTs.rep q1 _)⟩
    · split at e <;> try contradiction
      rename_i hz
      cases e; cases l2
      obtain ⟨a1, vs, rfl, f1, q1⟩ := l1
      refine op_repT pins s σ W.H _ _ v u Q I rx ry ⟨a1, _, vs, rfl, rfl, hK ▸ f1.sq, fun z => ?_, hz.2.1, hz.2.2.1, by rw [← q1.length]; exact hz.2.2.2, mk_tup ok p (RTs.rep q1 _)⟩
      have z' := (RTs.nil_iff q1).mpr z
      rw [z'] at hz
      exact Bool.noConfusion hz.1
    · cases e; cases l1; cases l2
      exact op_mulIB pins s σ W.H _ _ v u Q I rx ry ⟨_, _, rfl, rfl, noI p⟩
  | mod =>
    unfold opO at e
    split at e <;> try contradiction
    split at e <;> try contradiction
    rename_i hz
    cases e; cases l1; cases l2
    exact op_mod pins s σ W.H _ _ v u Q I rx ry ⟨_, _, rfl, rfl, hz, noI p⟩
  | fdiv =>
    unfold opO at e
    split at e <;> try contradiction
    split at e <;> try contradiction
    rename_i hz
    cases e; cases l1; cases l2
    exact op_fdiv pins s σ W.H _ _ v u Q I rx ry ⟨_, _, rfl, rfl, hz, noI p⟩
  | pow =>
    unfold opO at e
    split at e <;> try contradiction
    split at e <;> try contradiction
    rename_i hz
    cases e; cases l1; cases l2
    exact op_powG pins s σ W.H _ _ v u Q I rx ry ⟨_, _, rfl, rfl, hz, noI p⟩
/-! ### comparisons -/
def isNon : T → Bool
  | .non => true
  | _ => false
theorem nonV {W : Wd} {a : T} {x : V} (h : LT G W a x) : decide (x = .non) = isNon a := by
  cases a with
  | non => cases h; rfl
  | bl _ => cases h; rfl
  | int _ => cases h; rfl
  | str _ => obtain ⟨rfl, _⟩ := h; rfl
  | tup _ => obtain ⟨_, _, rfl, _⟩ := h; rfl
  | lst _ => obtain ⟨_, _, rfl, _⟩ := h; rfl
  | dct _ _ => obtain ⟨_, _, rfl, _⟩ := h; rfl
  | ins _ _ _ => obtain ⟨_, _, _, rfl, _⟩ := h; rfl
  | ref _ => obtain ⟨_, _, rfl⟩ := h; rfl
def rCmp (G : Gx) (op : Cm) : R2 := fun x y H Q => ∃ W t u b, W.H = H ∧ W.Ok G ∧ RT G W t x ∧ RT G W u y ∧ cmO op (look W.h t) (look W.h u) = some b ∧ Q (.bl b) H
theorem cmpR (hK : X.K = G.K) (hu : X.A.units + 64 < cLine) (op : Cm) : OpR X (compareOp (cmS op)) (rCmp G op) := by
  intro pins s σ H x y v u Q I rx ry h
  obtain ⟨W, t, t', k, rfl, ok, r1, r2, e, q⟩ := h
  have l1 := look_LT ok r1
  have l2 := look_LT ok r2
  have fin : ∀ {k' : Bool}, k = k' → EP X pins σ Q (.bool k') s := fun {k'} z => by subst z; exact ⟨.bl k, W.H, I, rfl, q⟩
  generalize look W.h t = a at e l1
  generalize look W.h t' = b at e l2
  have data : ∀ {m : Nat} {c : T} {z : V} {zv : Value}, T.pl m c = true → LT G W c z → RelV z zv → ∃ as, Reads s.heap zv (toD c) as := fun {m c z zv} hp hl hr => Dp.reads I _ z zv (by rw [hK]; exact dp_look hp hl) hr
  have eqs : ∀ {k0 : Bool}, eqO a b = some k0 → ∃ as bs, Reads s.heap v (toD a) as ∧ Reads s.heap u (toD b) bs ∧ (toD a).plain = true ∧ (toD b).plain = true ∧ X.A.units + min (toD a).depth (toD b).depth < cLine ∧ k0 = PyData.eqv (toD a) (toD b) := fun {k0} h => by
    unfold eqO at h
    split at h <;> try contradiction
    rename_i hp
    cases h
    rw [Bool.and_eq_true] at hp
    obtain ⟨as, ra⟩ := data hp.1 l1 rx
    obtain ⟨bs, rb⟩ := data hp.2 l2 ry
    refine ⟨as, bs, ra, rb, plain_toD _ _ hp.1, plain_toD _ _ hp.2, ?_, (eqv_toD _ _ _ _ hp.1 hp.2).symm⟩
    have := depth_toD _ _ hp.1
    have : deepest = 60 := rfl
    omega
  have ins : ∀ {k0 : Bool}, inO a b = some k0 → (∃ c z, a = .str [c] ∧ b = .str z ∧ k0 = z.contains c) ∨ (∃ l, b = .tup l ∧ T.pl deepest a = true ∧ T.pls deepest l = true ∧ k0 = l.any fun y => T.eqv y a) ∨ (∃ l, b = .lst l ∧ T.pl deepest a = true ∧ T.pls deepest l = true ∧ k0 = l.any fun y => T.eqv y a) := fun {k0} h => by
    unfold inO at h
    split at h
    · split at h <;> try contradiction
      cases h
      exact .inl ⟨_, _, rfl, rfl, rfl⟩
    · split at h <;> try contradiction
      rename_i hp
      cases h
      rw [Bool.and_eq_true] at hp
      exact .inr (.inl ⟨_, rfl, hp.1, hp.2, rfl⟩)
    · split at h <;> try contradiction
      rename_i hp
      cases h
      rw [Bool.and_eq_true] at hp
      exact .inr (.inr ⟨_, rfl, hp.1, hp.2, rfl⟩)
    · cases h
  have iss : ∀ {k0 : Bool}, isO a b = some k0 → (b = .non ∧ k0 = isNon a) ∨ (∃ x y, a = .bl x ∧ b = .bl y ∧ k0 = (x == y)) := fun {k0} h => by
    unfold isO at h
    split at h
    · cases h; exact .inl ⟨rfl, rfl⟩
    · cases h; exact .inr ⟨_, _, rfl, rfl, rfl⟩
    · cases h
  have room : ∀ {l : List T}, T.pl deepest a = true → T.pls deepest l = true → X.A.units + 1 + min (PyData.depthAll (toDs l)) (toD a).depth < cLine := fun {l} h1 h2 => by
    have := depth_toD _ _ h1
    have : deepest = 60 := rfl
    omega
  cases op with
  | eq =>
    obtain ⟨as, bs, ra, rb, p1, p2, hd, rfl⟩ := eqs e
    exact SeqAt.eq_plain ra rb p1 p2 hd (fin rfl)
  | ne =>
    obtain ⟨k0, e0, e1⟩ := Option.map_eq_some_iff.mp (show (eqO a b).map not = some k from e)
    obtain ⟨as, bs, ra, rb, p1, p2, hd, rfl⟩ := eqs e0
    exact SeqAt.ne_plain ra rb p1 p2 hd (fin e1.symm)
  | lt =>
    unfold cmO at e
    split at e <;> try contradiction
    all_goals rename_i zz
    all_goals first | contradiction | skip
    · cases zz; cases e; cases l1; cases l2
      exact op_lt pins s σ W.H _ _ v u Q I rx ry ⟨_, _, rfl, rfl, q⟩
    · cases zz; cases e
      obtain ⟨rfl, _⟩ := l1
      obtain ⟨rfl, _⟩ := l2
      exact op_lt_str pins s σ W.H _ _ v u Q I rx ry ⟨_, _, rfl, rfl, q⟩
  | le =>
    unfold cmO at e
    split at e <;> try contradiction
    all_goals rename_i zz
    all_goals first | contradiction | skip
    cases zz; cases e; cases l1; cases l2
    exact op_le pins s σ W.H _ _ v u Q I rx ry ⟨_, _, rfl, rfl, q⟩
  | gt =>
    unfold cmO at e
    split at e <;> try contradiction
    all_goals rename_i zz
    all_goals first | contradiction | skip
    cases zz; cases e; cases l1; cases l2
    exact op_gt pins s σ W.H _ _ v u Q I rx ry ⟨_, _, rfl, rfl, q⟩
  | ge =>
    unfold cmO at e
    split at e <;> try contradiction
    all_goals rename_i zz
    all_goals first | contradiction | skip
    cases zz; cases e; cases l1; cases l2
    exact op_ge pins s σ W.H _ _ v u Q I rx ry ⟨_, _, rfl, rfl, q⟩
  | is_ =>
    rcases iss e with ⟨rfl, rfl⟩ | ⟨x1, x2, rfl, rfl, rfl⟩
    · cases l2
      refine op_isN pins s σ W.H _ _ v u Q I rx ry ⟨rfl, ?_⟩
      rw [nonV l1]
      exact q
    · cases l1; cases l2
      refine op_isBl pins s σ W.H _ _ v u Q I rx ry ⟨_, _, rfl, rfl, ?_⟩
      rw [← Bool.beq_eq_decide_eq]
      exact q
  | isnt =>
    obtain ⟨k0, e0, e1⟩ := Option.map_eq_some_iff.mp (show (isO a b).map not = some k from e)
    rcases iss e0 with ⟨rfl, rfl⟩ | ⟨x1, x2, rfl, rfl, rfl⟩
    · cases l2
      refine op_notN pins s σ W.H _ _ v u Q I rx ry ⟨rfl, ?_⟩
      rw [nonV l1, e1]
      exact q
    · cases l1; cases l2
      refine op_notBl pins s σ W.H _ _ v u Q I rx ry ⟨_, _, rfl, rfl, ?_⟩
      rw [← Bool.beq_eq_decide_eq, e1]
      exact q
  | in_ =>
    rcases ins e with ⟨c, z, rfl, rfl, rfl⟩ | ⟨l, rfl, h1, h2, rfl⟩ | ⟨l, rfl, h1, h2, rfl⟩
    · obtain ⟨rfl, _⟩ := l1
      obtain ⟨rfl, _⟩ := l2
      refine op_in_str pins s σ W.H _ _ v u Q I rx ry ⟨_, _, rfl, rfl, ?_⟩
      rw [StrLaws.found_one]
      have ec : decide (c ∈ (tx z).cps.toList) = z.contains c := by simp [tx]
      rw [ec]
      exact q
    · obtain ⟨a2, ws, rfl, f2, q2⟩ := l2
      obtain ⟨as, ra⟩ := data h1 l1 rx
      obtain ⟨bs, rb⟩ := Dp.reads I (.tuple (toDs l)) _ u (by rw [hK]; exact .tup f2.sq (dps_of _ _ _ h2 q2)) ry
      refine SeqAt.in_tuple_data rb ra (plains_toD _ _ h2) (plain_toD _ _ h1) (room h1 h2) (fin ?_)
      rw [any_toD h1 l h2]
    · obtain ⟨a2, ws, rfl, f2, q2⟩ := l2
      obtain ⟨as, ra⟩ := data h1 l1 rx
      obtain ⟨bs, rb⟩ := Dp.reads I (.list (toDs l)) _ u (by rw [hK]; exact .lst f2 (dps_of _ _ _ h2 q2)) ry
      refine SeqAt.in_list_data rb ra (plains_toD _ _ h2) (plain_toD _ _ h1) (room h1 h2) (fin ?_)
      rw [any_toD h1 l h2]
  | nin =>
    obtain ⟨k0, e0, e1⟩ := Option.map_eq_some_iff.mp (show (inO a b).map not = some k from e)
    rcases ins e0 with ⟨c, z, rfl, rfl, rfl⟩ | ⟨l, rfl, h1, h2, rfl⟩ | ⟨l, rfl, h1, h2, rfl⟩
    · obtain ⟨rfl, _⟩ := l1
      obtain ⟨rfl, _⟩ := l2
      refine op_notin_str pins s σ W.H _ _ v u Q I rx ry ⟨_, _, rfl, rfl, ?_⟩
      rw [StrLaws.found_one]
      have ec : decide (c ∈ (tx z).cps.toList) = z.contains c := by simp [tx]
      rw [ec, e1]
      exact q
    · obtain ⟨a2, ws, rfl, f2, q2⟩ := l2
      obtain ⟨as, ra⟩ := data h1 l1 rx
      obtain ⟨bs, rb⟩ := Dp.reads I (.tuple (toDs l)) _ u (by rw [hK]; exact .tup f2.sq (dps_of _ _ _ h2 q2)) ry
      refine SeqAt.notIn_tuple_data rb ra (plains_toD _ _ h2) (plain_toD _ _ h1) (room h1 h2) (fin ?_)
      rw [any_toD h1 l h2]
      exact e1.symm
    · obtain ⟨a2, ws, rfl, f2, q2⟩ := l2
      obtain ⟨as, ra⟩ := data h1 l1 rx
      obtain ⟨bs, rb⟩ := Dp.reads I (.list (toDs l)) _ u (by rw [hK]; exact .lst f2 (dps_of _ _ _ h2 q2)) ry
      refine SeqAt.notIn_list_data rb ra (plains_toD _ _ h2) (plain_toD _ _ h1) (room h1 h2) (fin ?_)
      rw [any_toD h1 l h2]
      exact e1.symm
end
end Tw
end
/-! part Tw2d -/
section
set_option Elab.async false
set_option linter.all false
set_option maxRecDepth 100000
/-! Tw2d: truth, places, slices, built-ins, methods on trees. -/
namespace Tw
open PySem PySem.Spec PyProof.Rows L2
section
variable {G : Gx} {X : Cx} {E : XK} {pins : List (Addr × Obj)} {σ : L2.St} {H : Hp} {s : Shared} {W : Wd}
theorem mk_int {m : Bool} {i : Int} {Q : VK} (ok : W.Ok G) (p : PostE G W (mk m (.int i) W.h) Q E) : Q (.int i) W.H :=
  mk_at (G := G) (W := W) (m := m) (t := .int i) ok p rfl (fun _ z => nomatch z) (fun _ _ z => nomatch z)
theorem mk_bl {m : Bool} {b : Bool} {Q : VK} (ok : W.Ok G) (p : PostE G W (mk m (.bl b) W.h) Q E) : Q (.bl b) W.H :=
  mk_at (G := G) (W := W) (m := m) (t := .bl b) ok p rfl (fun _ z => nomatch z) (fun _ _ z => nomatch z)
theorem mk_str {m : Bool} {z : List Nat} {Q : VK} (ok : W.Ok G) (hz : z.length ≤ sizeLine) (p : PostE G W (mk m (.str z) W.h) Q E) : Q (.str (tx z)) W.H :=
  mk_at (G := G) (W := W) (m := m) (t := .str z) ok p ⟨rfl, hz⟩ (fun _ z => nomatch z) (fun _ _ z => nomatch z)

/-! ### truth -/
theorem emp_iff {l : List T} {vs : List V} (r : RTs G W l vs) : l.isEmpty = vs.isEmpty := by
  cases l <;> first | (obtain ⟨_, _, rfl, _⟩ := r; rfl) | (cases r; rfl)
theorem truV {t : T} {x : V} {b : Bool} (h : LT G W t x) (e : truth t = some b) : TruV G.K x W.H b := by
  cases t with
  | non => cases h; cases e; rfl
  | bl _ => cases h; cases e; rfl
  | int _ => cases h; cases e; rfl
  | str z =>
    obtain ⟨rfl, hz⟩ := h
    cases e
    refine ⟨by rw [tx_len]; exact hz, ?_⟩
    rw [tx_len]
    cases z <;> simp <;> omega
  | tup l =>
    obtain ⟨a, vs, rfl, f, r⟩ := h
    cases e
    exact .inr (.inl ⟨vs, f.sq, by rw [emp_iff r]⟩)
  | lst l =>
    obtain ⟨a, vs, rfl, f, r⟩ := h
    cases e
    exact .inl ⟨vs, f, by rw [emp_iff r]⟩
  | dct ks vs =>
    obtain ⟨a, kvs, rfl, f, k, r⟩ := h
    cases e
    refine .inr (.inr ⟨kvs, f, ?_⟩)
    rw [k]
    cases kvs <;> rfl
  | ins _ _ _ => cases e
  | ref _ => cases e

/-! ### a place -/
def rIxW (G : Gx) : R2 := fun x y H Q => ∃ W t u r, W.H = H ∧ W.Ok G ∧ RT G W t x ∧ RT G W u y ∧ ixO (look W.h t) u = some r ∧ ∀ v, RT G W r v → Q v H
theorem atI_rts {l : List T} {vs : List V} {i : Int} {t : T} (r : RTs G W l vs) (e : atI l i = some t) : ∃ v, L2.atI vs i = some v ∧ RT G W t v := by
  unfold atI at e
  obtain ⟨j, e1, e2⟩ := Option.bind_eq_some_iff.mp e
  obtain ⟨v, e3, q⟩ := r.get e2
  refine ⟨v, ?_, q⟩
  unfold L2.atI
  have e1' : L2.ixN vs.length i = some j := by rw [← r.length]; exact e1
  rw [e1']
  exact e3
theorem ixR (hK : X.K = G.K) : IxR X (rIxW G) := by
  intro value slice pins s σ H x y v u Q I rx ry h hs
  obtain ⟨W, t, t', r, rfl, ok, r1, r2, e, q⟩ := h
  have l1 := look_LT ok r1
  generalize look W.h t = a at e l1
  unfold ixO at e
  split at e <;> try contradiction
  · obtain ⟨c, e1, rfl⟩ := Option.map_eq_some_iff.mp e
    cases r2
    obtain ⟨rfl, hz⟩ := l1
    exact ix_str value slice pins s σ W.H _ _ v u Q I rx ry ⟨_, _, c, rfl, rfl, by rw [tx_len]; exact hz, e1, q _ ⟨rfl, by show 1 ≤ sizeLine; decide⟩⟩ hs
  · cases r2
    obtain ⟨p, vs, rfl, f, r⟩ := l1
    obtain ⟨w, e1, q1⟩ := atI_rts r e
    exact ix_tup value slice pins s σ W.H _ _ v u Q I rx ry ⟨p, vs, _, w, rfl, rfl, hK ▸ f.sq, e1, q w q1⟩ hs
  · cases r2
    obtain ⟨p, vs, rfl, f, r⟩ := l1
    obtain ⟨w, e1, q1⟩ := atI_rts r e
    exact ix_list value slice pins s σ W.H _ _ v u Q I rx ry ⟨p, vs, _, w, rfl, rfl, hK ▸ f, e1, q w q1⟩ hs

/-! ### slices -/
theorem sIx_cut (n d : Nat) (o : Option Int) : HT.sIx n d o = cutB n d o := by cases o <;> rfl
theorem cutV_rts {l : List T} {vs : List V} (r : RTs G W l vs) (lo hi : Option Int) : RTs G W (cutL l lo hi) (cutV vs lo hi) := by
  unfold cutL cutV
  rw [sIx_cut, sIx_cut, r.length]
  exact (r.drop _).take _
theorem cutS_tx (z : List Nat) (lo hi : Option Int) : cutS (tx z) lo hi = tx (cutL z lo hi) := by
  unfold cutS cutL
  rw [sIx_cut, sIx_cut, tx_len]
theorem cutL_len {α : Type} (l : List α) (lo hi : Option Int) : (cutL l lo hi).length ≤ l.length := by
  unfold cutL
  rw [List.length_take, List.length_drop]
  omega
def rSlW (G : Gx) (m : Bool) (E : XK) : V → Option Int → Option Int → Hp → VK → Prop := fun x lo hi H Q => ∃ W t, W.H = H ∧ W.Ok G ∧ RT G W t x ∧ PostE G W ((ofO (cutO lo hi (look W.h t)) W.h).bind fun r h => mk m r h) Q E
theorem slR (hK : X.K = G.K) (m : Bool) : SlR X (rSlW G m E) := by
  intro pins s σ H x v vl vu lo hi sl Q I rx hs pl pu h
  obtain ⟨W, t, rfl, ok, r1, p⟩ := h
  obtain ⟨r, e, p⟩ := p.of_bindO
  have l1 := look_LT ok r1
  generalize look W.h t = a at e l1
  unfold cutO at e
  split at e <;> try contradiction
  · cases e
    obtain ⟨rfl, hz⟩ := l1
    refine sl_str pins s σ W.H _ v vl vu lo hi sl Q I rx hs pl pu ⟨_, rfl, by rw [tx_len]; exact hz, ?_⟩
    rw [cutS_tx]
    exact mk_str ok (Nat.le_trans (cutL_len _ _ _) hz) p
  · cases e
    obtain ⟨q, vs, rfl, f, r⟩ := l1
    refine sl_tupA pins s σ W.H _ v vl vu lo hi sl Q I rx hs pl pu ⟨q, vs, rfl, hK ▸ f.sq, fun z => ?_, fun _ => mk_tup ok p (cutV_rts r lo hi)⟩
    rename_i l
    have e2 : cutL l lo hi = l := by
      unfold cutL
      rw [← sIx_cut, ← sIx_cut, r.length, z.1, z.2, List.drop_zero, Nat.sub_zero, ← r.length, List.take_length]
    rw [e2] at p
    exact mk_tup' ok p f r
  · cases e
    obtain ⟨q, vs, rfl, f, r⟩ := l1
    exact sl_list pins s σ W.H _ v vl vu lo hi sl Q I rx hs pl pu ⟨q, vs, rfl, hK ▸ f, mk_lst ok p (cutV_rts r lo hi)⟩

/-! ### from the end -/
theorem revStr (z : List Nat) : ((Builtin.Str.strSliceIndices none none (-1) (tx z).length).filterMap ((tx z).cps[·]?)) = z.reverse := by
  have e : Builtin.Str.strSliceIndices none none (-1) (tx z).length = (List.range z.length).map fun k => z.length - 1 - k := by
    rw [tx_len]
    exact PySem.W.krv_sliceRange z.length
  rw [e, PySem.W.krv_range]
  have a := PySem.W.krv_all z.toArray
  rw [List.size_toArray] at a
  rw [List.filterMap_reverse]
  exact congrArg List.reverse a
def rRevW (G : Gx) (m : Bool) (E : XK) : V → Hp → VK → Prop := fun x H Q => ∃ W t, W.H = H ∧ W.Ok G ∧ RT G W t x ∧ PostE G W ((ofO (revO (look W.h t)) W.h).bind fun r h => mk m r h) Q E
theorem pe_rev {m : Bool} {e : Expr} {te : TE} {k : Nat} {p1 p2 p3 pos : Pos} (hK : X.K = G.K) (he : PE X e te) : PE X (.Subscript e (.Slice none none (some (.UnaryOp .USub (.Constant (.int 1) k p1) p2)) p3) pos) (tUn (rRevW G m E) te) := by
  refine ⟨fun pins s σ H Q I h => ?_⟩
  refine Subscript_ (thn (he.run pins s σ H _ I h) fun v s1 ⟨x, H1, I1, r1, q1⟩ => ?_)
  have step : PO X (some (.UnaryOp .USub (.Constant (.int 1) k p1) p2)) (tPart (tUn (rU fun i => .int (-i)) (tC (.int 1)))) := po_some (pe_un un_neg pe_int)
  refine wpAny_Slice (thn (po_none.run pins s1 σ H1 (fun o Ha => o = none ∧ Ha = H1) I1 ⟨rfl, rfl⟩) fun vl s2 ⟨l, Ha, Ia, pl, el, ea⟩ => ?_)
  subst el ea
  refine thn (po_none.run pins s2 σ Ha (fun o Hb => o = none ∧ Hb = Ha) Ia ⟨rfl, rfl⟩) fun vu s3 ⟨u, Hb, Ib, pu, eu, eb⟩ => ?_
  subst eu eb
  refine thn (step.run pins s3 σ Hb (fun o Hc => o = some (-1) ∧ Hc = Hb) Ib ⟨1, rfl, -1, rfl, rfl, rfl⟩) fun vs s4 ⟨o, Hc, Ic, ps, eo, ec⟩ => ?_
  subst eo ec
  have J : Inv X pins σ Hc { s4 with heap := s4.heap.push { cls := .type "slice", data := .fields #[vl, vu, vs] } } := Ic.kept (t' := s4.toks) fun b ob q => Heap.get?_push_of_some _ q
  obtain ⟨W, t, hW, ok, r, p⟩ := q1
  subst hW
  obtain ⟨r', e1, p⟩ := p.of_bindO
  have l1 := look_LT ok r
  generalize look W.h t = a at e1 l1
  show wpAny (model X.prog X.w) X.A (subscriptTail e (.Slice none none (some (.UnaryOp .USub (.Constant (.int 1) k p1) p2)) p3) v (.ref s4.heap.objs.size)) (EP X pins σ Q) X.xe { s4 with heap := s4.heap.push { cls := .type "slice", data := .fields #[vl, vu, vs] } }
  unfold revO at e1
  split at e1 <;> try contradiction
  · cases e1
    obtain ⟨rfl, hz⟩ := l1
    obtain ⟨tk, rfl⟩ := r1
    obtain ⟨l', rfl, hl'⟩ := IsPart.raw pl
    obtain ⟨u', rfl, hu'⟩ := IsPart.raw pu
    obtain ⟨w', rfl, hw'⟩ := IsPart.raw ps
    have hl2 : l' = none := by cases l' <;> simp_all
    have hu2 : u' = none := by cases u' <;> simp_all
    subst hl2 hu2
    refine tail_any (ops := [.str (tx _) tk, .ref s4.heap.objs.size]) (typeIs_str _ _ _) F.slot_str_getitem.lookup ?_ (by with_unfolding_all rfl)
    have hg : (w'.map (·.1)).getD 1 = -1 := by
      cases w' with
      | none => simp at hw'
      | some q => simp at hw'; simp [hw']
    refine wpAny_getItem_str_slice (l := none) (u := none) (st := w') ⟨_, Heap.get?_push_size _ rfl, rfl, rfl⟩ (by rw [hg]; decide) ?_
    have hsp : slicePicked (tx ‹List Nat›) none none w' = Builtin.Str.strSliceIndices none none (-1) (tx ‹List Nat›).length := by
      unfold slicePicked
      rw [hg]
      rfl
    unfold sliceMade
    rw [hg, hsp, revStr]
    have hlen := tx_len (List.reverse ‹List Nat›)
    rw [List.length_reverse] at hlen
    refine ⟨by rw [hlen]; exact hz, .str _, W.H, J.tok _, ⟨_, rfl⟩, mk_str ok (by rw [List.length_reverse]; exact hz) p⟩
  · cases e1
    obtain ⟨q, vs', rfl, f, rr⟩ := l1
    cases r1
    obtain ⟨its, rv, ht, hz⟩ := J.list (hK ▸ f)
    have hlen := rv.length
    refine tail_any (ops := [.ref q, .ref s4.heap.objs.size]) ht.isList.typeIs (PySem.slot_list_getitem.lookup) ?_ (by with_unfolding_all rfl)
    refine wpAny_getItem_list_slice ht.isList (Heap.IsSliceOf.new _ vl vu vs) pl pu ps (by decide) ?_ (by rw [List.size_toArray]; omega)
    rw [PySem.W.krv_pick]
    refine ⟨.ref _, _, J.laid (t' := s4.toks) (o := .lst vs'.reverse) (fun b ob z => Heap.get?_push_of_some _ z) (Nat.le_refl _) ?_, rfl, mk_lst ok p rr.reverse _ (J.hok.fresh (Nat.le_refl _))⟩
    exact ⟨by rw [List.length_reverse]; exact hz, _, 0, rv.reverse, Heap.get?_push_size _ rfl⟩
end
end Tw
end
/-! part Tw2e -/
section
set_option Elab.async false
set_option linter.all false
set_option maxRecDepth 100000
/-! Tw2e: built-ins, methods, isinstance on trees. -/
namespace Tw
open PySem PySem.Spec PyProof.Rows L2
section
variable {G : Gx} {X : Cx} {E : XK} {pins : List (Addr × Obj)} {σ : L2.St} {H : Hp} {s : Shared} {W : Wd}
theorem bls_vals : ∀ {l : List T} {vs : List V} {bs : List Bool}, bls l = some bs → RTs G W l vs → vs = bs.map V.bl
  | [], _, _, e, r => by cases e; cases r; rfl
  | .bl b :: l, vs, bs, e, r => by
    obtain ⟨v, w, rfl, rv, rw'⟩ := r
    obtain ⟨bs', e1, rfl⟩ := Option.map_eq_some_iff.mp (show (bls l).map (fun bs => b :: bs) = some bs from e)
    cases rv
    rw [bls_vals e1 rw']
    rfl
  | .non :: _, _, _, e, _ => by cases e
  | .int _ :: _, _, _, e, _ => by cases e
  | .str _ :: _, _, _, e, _ => by cases e
  | .tup _ :: _, _, _, e, _ => by cases e
  | .lst _ :: _, _, _, e, _ => by cases e
  | .dct _ _ :: _, _, _, e, _ => by cases e
  | .ins _ _ _ :: _, _, _, e, _ => by cases e
  | .ref _ :: _, _, _, e, _ => by cases e
theorem txts_vals : ∀ {l : List T} {vs : List V} {ss : List (List Nat)}, txts l = some ss → RTs G W l vs → vs = (ss.map tx).map V.str
  | [], _, _, e, r => by cases e; cases r; rfl
  | .str b :: l, vs, bs, e, r => by
    obtain ⟨v, w, rfl, rv, rw'⟩ := r
    obtain ⟨bs', e1, rfl⟩ := Option.map_eq_some_iff.mp (show (txts l).map (fun bs => b :: bs) = some bs from e)
    obtain ⟨rfl, _⟩ := rv
    rw [txts_vals e1 rw']
    rfl
  | .non :: _, _, _, e, _ => by cases e
  | .int _ :: _, _, _, e, _ => by cases e
  | .bl _ :: _, _, _, e, _ => by cases e
  | .tup _ :: _, _, _, e, _ => by cases e
  | .lst _ :: _, _, _, e, _ => by cases e
  | .dct _ _ :: _, _, _, e, _ => by cases e
  | .ins _ _ _ :: _, _, _, e, _ => by cases e
  | .ref _ :: _, _, _, e, _ => by cases e
theorem joinL_tl (a : List Nat) : ∀ l : List (List Nat), TL.joinL a l = joinL a l
  | [] => rfl
  | [x] => rfl
  | x :: y :: r => by
    show x ++ (a ++ TL.joinL a (y :: r)) = x ++ a ++ joinL a (y :: r)
    rw [joinL_tl a (y :: r), List.append_assoc]
theorem join_tx (a : List Nat) (l : List (List Nat)) : Txt.join (tx a) (l.map tx) = tx (joinL a l) := by
  have h := SX.join_S a l
  rw [joinL_tl] at h
  exact h
theorem join_len (a : List Nat) : ∀ l : List (List Nat), (joinL a l).length ≤ (l.map List.length).sum + l.length * a.length
  | [] => Nat.zero_le _
  | [x] => by simp [joinL]
  | x :: y :: r => by
    have ih := join_len a (y :: r)
    simp only [joinL, List.length_append, List.map_cons, List.sum_cons, List.length_cons] at ih ⊢
    have : (r.length + 1 + 1) * a.length = (r.length + 1) * a.length + a.length := Nat.succ_mul _ _
    omega

/-! ### the text of a list of truths -/
def blD (b : Bool) : PyData := .bool b
theorem shownAll_bl : ∀ bs : List Bool, PyData.shownAll (bs.map PyData.bool) = bs.map fun b => tx (blTx b)
  | [] => rfl
  | b :: bs => by
    rw [List.map_cons, List.map_cons, ← shownAll_bl bs]
    cases b <;> rfl
theorem textFrom_tx : ∀ (l : List (List Nat)) (k : Nat) (acc : List Nat), textFrom k (tx acc) (l.map tx) = tx (txtFrom k acc l)
  | [], _, _ => rfl
  | t :: r, k, acc => by
    show textFrom (k + 1) (tx acc ++ (if k > 0 then ", " else "" : String) ++ tx t) (r.map tx) = tx (txtFrom (k + 1) (acc ++ (if k > 0 then [44, 32] else []) ++ t) r)
    rw [← textFrom_tx r (k + 1) _, ← tx_app, ← tx_app]
    congr 1
    by_cases h : k > 0
    · rw [if_pos h, if_pos h]
      rfl
    · rw [if_neg h, if_neg h]
      rfl
theorem shown_bls (bs : List Bool) : (PyData.list (bs.map PyData.bool)).shown = tx (reprBls bs) := by
  show listText (PyData.shownAll (bs.map PyData.bool)) = _
  rw [shownAll_bl]
  have e : (bs.map fun b => tx (blTx b)) = (bs.map blTx).map tx := by rw [List.map_map]; rfl
  rw [e]
  show textFrom 0 (tx [91]) ((bs.map blTx).map tx) ++ tx [93] = tx (txtFrom 0 [91] (bs.map blTx) ++ [93])
  rw [textFrom_tx, tx_app]
theorem txtFrom_len : ∀ (l : List (List Nat)) (k : Nat) (acc : List Nat), (∀ t ∈ l, t.length ≤ 5) → (txtFrom k acc l).length ≤ acc.length + 7 * l.length
  | [], _, _, _ => Nat.le_refl _
  | t :: r, k, acc, h => by
    have ih := txtFrom_len r (k + 1) (acc ++ (if k > 0 then [44, 32] else []) ++ t) fun u hu => h u (List.mem_cons_of_mem _ hu)
    have ht := h t List.mem_cons_self
    have e : txtFrom k acc (t :: r) = txtFrom (k + 1) (acc ++ (if k > 0 then [44, 32] else []) ++ t) r := rfl
    rw [e]
    simp only [List.length_append, List.length_cons] at ih ⊢
    have : (if k > 0 then [44, 32] else ([] : List Nat)).length ≤ 2 := by split <;> decide
    omega
theorem reprBls_len {bs : List Bool} (h : bs.length ≤ 1000) : (reprBls bs).length ≤ sizeLine := by
  have q := txtFrom_len (bs.map blTx) 0 [91] fun t ht => by
    obtain ⟨b, _, rfl⟩ := List.mem_map.mp ht
    cases b <;> decide
  rw [List.length_map] at q
  unfold reprBls
  rw [List.length_append]
  have : (sizeLine : Nat) = 16777216 := sizeLine_eq
  simp only [List.length_cons, List.length_nil] at q ⊢
  omega
theorem bl_showable : ∀ bs : List Bool, PyData.showableAll (bs.map PyData.bool) = true
  | [] => rfl
  | b :: bs => by
    rw [List.map_cons]
    unfold PyData.showableAll
    rw [bl_showable bs]
    rfl
theorem bl_noDict : ∀ bs : List Bool, PyData.hasDictAll (bs.map PyData.bool) = false
  | [] => rfl
  | b :: bs => by
    rw [List.map_cons]
    unfold PyData.hasDictAll
    rw [bl_noDict bs]
    rfl
theorem bl_depth : ∀ bs : List Bool, PyData.depthAll (bs.map PyData.bool) = 0
  | [] => rfl
  | b :: bs => by
    rw [List.map_cons]
    unfold PyData.depthAll
    rw [bl_depth bs]
    rfl
theorem dps_bl (K : PySem.W.Frag) (H : Hp) : ∀ bs : List Bool, DpAll K H (bs.map V.bl) (bs.map PyData.bool)
  | [] => .nil
  | b :: bs => .cons (.bl b) (dps_bl K H bs)

/-! ### built-ins -/
def biV : Bi → Value
  | .len => .builtin "len" | .all => .builtin "all" | .any => .builtin "any" | .tuple => .type "tuple" | .list => .type "list" | .abs => .builtin "abs" | .int => .type "int" | .max => .builtin "max" | .min => .builtin "min" | .repr => .builtin "repr"
def rBi (G : Gx) (m : Bool) (f : Bi) (E : XK) : List V → Hp → VK → Prop := fun vs H Q => ∃ W ts, W.H = H ∧ W.Ok G ∧ RTs G W ts vs ∧ PostE G W ((ofO (biO f (ts.map (look W.h))) W.h).bind fun t h => mk m t h) Q E
theorem rts1 {t : T} {vs : List V} (r : RTs G W [t] vs) : ∃ v, vs = [v] ∧ RT G W t v := by
  obtain ⟨v, w, rfl, a, b⟩ := r
  cases b
  exact ⟨v, rfl, a⟩
theorem rts2 {t u : T} {vs : List V} (r : RTs G W [t, u] vs) : ∃ v w, vs = [v, w] ∧ RT G W t v ∧ RT G W u w := by
  obtain ⟨v, w, rfl, a, b⟩ := r
  obtain ⟨w', rfl, b'⟩ := rts1 b
  exact ⟨v, w', rfl, a, b'⟩
theorem biR (hK : X.K = G.K) (hc : X.calm = true) (hu : X.A.units + 64 < cLine) (m : Bool) (f : Bi) (hg : f = .repr → X.A.guards = some []) : CallR X (biV f) (rBi G m f E) := by
  intro pins s σ H vs us Q I rv h
  obtain ⟨W, ts, rfl, ok, r, p⟩ := h
  obtain ⟨a, e, p⟩ := p.of_bindO
  have one : ∀ {b : T}, ts.map (look W.h) = [b] → ∃ v, vs = [v] ∧ LT G W b v := fun {b} e => by
    cases ts with
    | nil => cases e
    | cons t r' =>
      cases r' with
      | nil =>
        obtain ⟨v, rfl, q⟩ := rts1 r
        have e' : look W.h t = b := by simpa using e
        exact ⟨v, rfl, e' ▸ look_LT ok q⟩
      | cons _ _ => simp at e
  have two : ∀ {b c : T}, ts.map (look W.h) = [b, c] → ∃ v w, vs = [v, w] ∧ LT G W b v ∧ LT G W c w := fun {b c} e => by
    cases ts with
    | nil => cases e
    | cons t r' =>
      cases r' with
      | nil => simp at e
      | cons u r' =>
        cases r' with
        | nil =>
          obtain ⟨v, w, rfl, q1, q2⟩ := rts2 r
          have e' : look W.h t = b ∧ look W.h u = c := by simpa using e
          exact ⟨v, w, rfl, e'.1 ▸ look_LT ok q1, e'.2 ▸ look_LT ok q2⟩
        | cons _ _ => simp at e
  generalize ts.map (look W.h) = ls at e one two
  cases f with
  | len =>
    unfold biO at e
    split at e <;> (rename_i q; try contradiction)
    obtain ⟨n, e1, rfl⟩ := Option.map_eq_some_iff.mp e
    obtain ⟨v, rfl, l⟩ := one rfl
    refine call_len pins s σ W.H _ us Q I rv ⟨v, n, rfl, ?_, mk_int ok p⟩
    unfold lenO at e1
    split at e1 <;> try contradiction
    · cases e1
      obtain ⟨rfl, hz⟩ := l
      exact ⟨by rw [tx_len]; exact hz, (tx_len _).symm⟩
    · cases e1
      obtain ⟨b, ws, rfl, f, r⟩ := l
      exact .inr ⟨ws, hK ▸ f.sq, r.length⟩
    · cases e1
      obtain ⟨b, ws, rfl, f, r⟩ := l
      exact .inl ⟨ws, hK ▸ f, r.length⟩
  | all =>
    unfold biO at e
    split at e <;> (rename_i q; try contradiction)
    obtain ⟨bs, e1, rfl⟩ := Option.map_eq_some_iff.mp e
    obtain ⟨v, rfl, b, ws, rfl, f, r⟩ := one rfl
    rw [bls_vals e1 r] at f
    exact cr_all hc pins s σ W.H _ us Q I rv ⟨b, bs, rfl, hK ▸ f, mk_bl ok p⟩
  | any =>
    unfold biO at e
    split at e <;> (rename_i q; try contradiction)
    obtain ⟨bs, e1, rfl⟩ := Option.map_eq_some_iff.mp e
    obtain ⟨v, rfl, b, ws, rfl, f, r⟩ := one rfl
    rw [bls_vals e1 r] at f
    exact cr_any hc pins s σ W.H _ us Q I rv ⟨b, bs, rfl, hK ▸ f, mk_bl ok p⟩
  | tuple =>
    unfold biO at e
    split at e <;> (rename_i q; try contradiction)
    all_goals cases e
    · obtain ⟨v, rfl, b, ws, rfl, f, r⟩ := one rfl
      exact call_tuple_of pins s σ W.H _ us Q I rv ⟨b, ws, rfl, .inl ⟨hK ▸ f, mk_tup ok p r⟩⟩
    · obtain ⟨v, rfl, b, ws, rfl, f, r⟩ := one rfl
      exact call_tuple_of pins s σ W.H _ us Q I rv ⟨b, ws, rfl, .inr ⟨hK ▸ f.sq, mk_tup' ok p f r⟩⟩
  | list =>
    unfold biO at e
    split at e <;> (rename_i q; try contradiction)
    all_goals cases e
    · obtain ⟨v, rfl, b, ws, rfl, f, r⟩ := one rfl
      exact call_list_of pins s σ W.H _ us Q I rv ⟨b, ws, rfl, .inl (hK ▸ f), mk_lst ok p r⟩
    · obtain ⟨v, rfl, b, ws, rfl, f, r⟩ := one rfl
      exact call_list_of pins s σ W.H _ us Q I rv ⟨b, ws, rfl, .inr (hK ▸ f.sq), mk_lst ok p r⟩
  | abs =>
    unfold biO at e
    split at e <;> (rename_i q; try contradiction)
    cases e
    obtain ⟨v, rfl, l⟩ := one rfl
    cases l
    refine call_abs pins s σ W.H _ us Q I rv ⟨_, rfl, ?_⟩
    rename_i i
    have e2 : (if i < 0 then -i else i) = (i.natAbs : Int) := by split <;> omega
    rw [e2]
    exact mk_int ok p
  | int =>
    unfold biO at e
    split at e <;> (rename_i q; try contradiction)
    all_goals cases e
    · obtain ⟨v, rfl, l⟩ := one rfl
      cases l
      exact call_int1 pins s σ W.H _ us Q I rv (.inl ⟨_, rfl, mk_int ok p⟩)
    · obtain ⟨v, rfl, l⟩ := one rfl
      cases l
      exact call_int1 pins s σ W.H _ us Q I rv (.inr ⟨_, rfl, mk_int ok p⟩)
  | max =>
    unfold biO at e
    split at e <;> (rename_i q; try contradiction)
    cases e
    obtain ⟨v, w, rfl, l1, l2⟩ := two rfl
    cases l1; cases l2
    exact call_max2 hc pins s σ W.H _ us Q I rv ⟨_, _, rfl, mk_int ok p⟩
  | min =>
    unfold biO at e
    split at e <;> (rename_i q; try contradiction)
    cases e
    obtain ⟨v, w, rfl, l1, l2⟩ := two rfl
    cases l1; cases l2
    exact call_min2 hc pins s σ W.H _ us Q I rv ⟨_, _, rfl, mk_int ok p⟩
  | repr =>
    unfold biO at e
    split at e <;> (rename_i q; try contradiction)
    split at e <;> try contradiction
    rename_i hz
    obtain ⟨bs, e1, rfl⟩ := Option.map_eq_some_iff.mp e
    obtain ⟨v, rfl, b, ws, rfl, f, r⟩ := one rfl
    have hl := r.length
    rw [bls_vals e1 r] at f hl
    rw [List.length_map] at hl
    obtain ⟨u, rfl, ru⟩ := vals1 rv
    cases ru
    obtain ⟨as, rd⟩ := Dp.reads I (.list (bs.map PyData.bool)) (V.ref b) (.ref b) (by rw [hK]; exact .lst f (dps_bl _ _ bs)) rfl
    have hsz := reprBls_len (bs := bs) (by omega)
    refine PySem.repr_of_reads' rd (bl_showable bs) (PySem.PyData.noDict_hsm (bl_noDict bs)) (hg rfl) ?_ (fun _ _ h => h) (fun h' u tk hk => ?_) ?_
    · show X.A.units + (PyData.depthAll (bs.map PyData.bool) + 1 + 1) < cLine
      rw [bl_depth]
      omega
    · rw [shown_bls]
      exact ⟨.str _, W.H, (I.kept (t' := tk) hk), ⟨_, rfl⟩, mk_str ok hsz p⟩
    · rw [shown_bls, tx_len]
      exact hsz
/-! ### methods -/
def meT : Me → String
  | .append => "list" | .join => "str"
def meI : Me → String
  | .append => "list.append" | .join => "str.join"
theorem meTy {f : Me} {t : T} {x : V} (h : LT G W t x) (e : meOk f t = true) : tyV G.K (meT f) x W.H := by
  unfold meOk at e
  split at e <;> try contradiction
  · obtain ⟨a, vs, rfl, q, _⟩ := h
    exact .inl ⟨rfl, vs, q⟩
  · obtain ⟨rfl, _⟩ := h
    exact rfl
def rMe (G : Gx) (f : Me) (E : XK) : V → List V → Hp → VK → Prop := fun x vs H Q => ∃ W t ts, W.H = H ∧ W.Ok G ∧ RT G W t x ∧ RTs G W ts vs ∧ PostE G W (meR f t ts W.h) Q E
theorem meRR (hK : X.K = G.K) (f : Me) : MtR X (meI f) (rMe G f E) := by
  intro pins s σ H x xs v us Q I rx rs h
  obtain ⟨W, t, ts, rfl, ok, r1, r2, p⟩ := h
  cases f with
  | append =>
    cases t with
    | ref i =>
      obtain ⟨y, rfl⟩ : ∃ y, ts = [y] := by
        match ts, p with
        | [], p => exact False.elim p
        | [y], _ => exact ⟨y, rfl⟩
        | _ :: _ :: _, p => exact False.elim p
      unfold meR at p
      simp only at p
      split at p <;> try exact False.elim p
      rename_i l e
      split at p <;> try exact False.elim p
      rename_i hz
      obtain ⟨a, hb, rfl⟩ := r1
      obtain ⟨w, rfl, rw'⟩ := rts1 r2
      obtain ⟨vs, hH, rr⟩ := ok.cont i (.lst l) a e hb
      have ex : Ext W ⟨upd W.H a (.lst (vs ++ [w])), W.β, W.h.set i (some (.lst (l ++ [y])))⟩ := Ext.set e hb
      refine mt_append pins s σ W.H _ _ v us Q I rx rs ⟨a, vs, w, rfl, rfl, hH, by rw [← rr.length]; exact lim_line' hz, ?_⟩
      exact p ⟨upd W.H a (.lst (vs ++ [w])), W.β, W.h.set i (some (.lst (l ++ [y])))⟩ .non rfl ex (ok.set e hb ⟨_, upd_same, RTs.ext ex _ _ (rr.append (.one rw'))⟩) rfl
    | _ => exact False.elim p
  | join =>
    unfold meR at p
    split at p <;> (rename_i q; try exact False.elim p)
    · contradiction
    · split at p <;> try exact False.elim p
      rename_i l e
      split at p <;> try exact False.elim p
      rename_i ss e1
      split at p <;> try exact False.elim p
      rename_i hz
      obtain ⟨rfl, hz1⟩ := r1
      obtain ⟨w, rfl, rw'⟩ := rts1 r2
      have l1 := look_LT ok rw'
      rw [e] at l1
      obtain ⟨a, vs, rfl, f, rr⟩ := l1
      rw [txts_vals e1 rr] at f
      refine mt_join pins s σ W.H _ _ v us Q I rx rs ⟨_, a, ss.map tx, rfl, rfl, .inl (hK ▸ f), ?_, ?_⟩
      · have e2 : (ss.map tx).map (·.length) = ss.map List.length := by
          rw [List.map_map]
          exact List.map_congr_left fun z _ => tx_len z
        rw [e2, List.length_map, tx_len]
        exact Nat.le_trans hz (by decide)
      · rw [join_tx]
        exact Post.here (rel := RT G) (a := .str _) ok p ⟨rfl, Nat.le_trans (join_len _ _) (lim_line hz)⟩

/-! ### isinstance -/
def tyS : Ty → String
  | .int => "int" | .str => "str" | .bool => "bool" | .tuple => "tuple" | .list => "list" | .dict => "dict"
theorem isiV {t : T} {x : V} {y : Ty} {b : Bool} (h : LT G W t x) (e : isiO t y = some b) : ∃ (tv : Value), TyX G.K W.H x tv ∧ PySem.W.kitOne G.K tv (.type (tyS y)) = some b := by
  cases t with
  | non =>
    cases h
    cases e
    refine ⟨_, .base .non, ?_⟩
    cases y <;> exact kit_ty (by decide +kernel)
  | bl k =>
    cases h
    refine ⟨_, .base (.bl _), ?_⟩
    cases y <;> (cases e; exact kit_ty (by decide +kernel))
  | int i =>
    cases h
    refine ⟨_, .base (.int _), ?_⟩
    cases y <;> (cases e; exact kit_ty (by decide +kernel))
  | str z =>
    obtain ⟨rfl, _⟩ := h
    refine ⟨_, .base (.str _), ?_⟩
    cases y <;> (cases e; exact kit_ty (by decide +kernel))
  | tup l =>
    obtain ⟨a, vs, rfl, f, _⟩ := h
    have ty : TyX G.K W.H (.ref a) (.type "tuple") := by
      rcases f with ⟨f | ⟨o, f⟩, _⟩ | ⟨o, its, n, hk, hc, _⟩
      · exact .base (.tup f)
      · exact .fTuple f
      · exact .kTuple hk hc
    refine ⟨_, ty, ?_⟩
    cases y <;> (cases e; exact kit_ty (by decide +kernel))
  | lst l =>
    obtain ⟨a, vs, rfl, f, _⟩ := h
    have ty : TyX G.K W.H (.ref a) (.type "list") := by
      rcases f with (f | ⟨o, f⟩) | ⟨o, its, n, hk, hc, _⟩
      · exact .base (.lst f)
      · exact .base (.frz f)
      · exact .kList hk hc
    refine ⟨_, ty, ?_⟩
    cases y <;> (cases e; exact kit_ty (by decide +kernel))
  | dct ks vs =>
    obtain ⟨a, kvs, rfl, f, _⟩ := h
    refine ⟨_, .base (.dK f), ?_⟩
    cases y <;> (cases e; exact kit_ty (by decide +kernel))
  | ins _ _ _ => cases y <;> cases e
  | ref _ => cases y <;> cases e
def rIsiW (G : Gx) (y : Ty) : List V → Hp → VK → Prop := fun vs H Q => ∃ W t x b, vs = [x, .ty (tyS y)] ∧ W.H = H ∧ W.Ok G ∧ RT G W t x ∧ isiO (look W.h t) y = some b ∧ Q (.bl b) H
theorem isiR (hK : X.K = G.K) (y : Ty) : CallR X (.builtin "isinstance") (rIsiW G y) := by
  intro pins s σ H xs us Q I r h
  obtain ⟨W, t, x, b, rfl, rfl, ok, r1, e, q⟩ := h
  obtain ⟨tv, h1, h2⟩ := isiV (look_LT ok r1) e
  exact call_isi pins s σ W.H _ us Q I r ⟨x, _, tv, .type (tyS y), b, rfl, .ty _, hK ▸ h1, hK ▸ h2, q⟩
end
end Tw
end
/-! part Tw2f -/
section
set_option Elab.async false
set_option linter.all false
set_option maxRecDepth 100000
/-! Tw2f: expressions, tests, arguments: the layer's judgements read as the evaluator's answers. -/
namespace Tw
open PySem PySem.Spec PyProof.Rows L2

/-- what the rules want of a context -/
structure Cn (G : Gx) (X : Cx) : Prop where
  K : X.K = G.K
  nd : X.N.Nodup
  calm : X.calm = true
  un : X.A.units + 64 < cLine

/-- the slots: those at ex are not told -/
def Rx (G : Gx) (W : Wd) (ex : Nat → Prop) (σ : Sl) (σt : L2.St) : Prop := σ.length = σt.length ∧ ∀ (i : Nat) t, ex i → σ[i]? = some (some t) → ∃ v, σt[i]? = some (some v) ∧ RT G W t v
abbrev Rs (G : Gx) (W : Wd) : Sl → L2.St → Prop := Rx G W fun _ => True
section
variable {G : Gx} {W W' W1 : Wd} {ex : Nat → Prop} {σ : Sl} {σt : L2.St}
theorem Rx.ext (r : Rx G W ex σ σt) (e : Ext W W') : Rx G W' ex σ σt := ⟨r.1, fun i t hi h => let ⟨v, h1, h2⟩ := r.2 i t hi h; ⟨v, h1, RT.ext e t v h2⟩⟩
end

def tE (G : Gx) (Γ : Tw.Env) (E : XK) (e : Ex) : TE := fun σt H Q => ∃ W σ, W.H = H ∧ W.Ok G ∧ Rs G W σ σt ∧ PostE G W (evE Γ e σ W.h) Q E
def tA (G : Gx) (Γ : Tw.Env) (E : XK) (es : List Ex) : TA := fun σt H Q => ∃ W σ, W.H = H ∧ W.Ok G ∧ Rs G W σ σt ∧ PostA G W (evEs Γ es σ W.h) Q E
def tB (G : Gx) (Γ : Tw.Env) (E : XK) (e : Ex) : TT := fun σt H Q => ∃ W σ, W.H = H ∧ W.Ok G ∧ Rs G W σ σt ∧ PostB G W (evB Γ e σ W.h) Q E
def tBs (G : Gx) (Γ : Tw.Env) (E : XK) (es : List Ex) : TT := fun σt H Q => ∃ W σ, W.H = H ∧ W.Ok G ∧ Rs G W σ σt ∧ PostB G W (evBs Γ es σ W.h) Q E

section
variable {G : Gx} {Γ : Tw.Env} {E : XK} {W : Wd} {σ : Sl} {σt : L2.St} {H : Hp} {γ δ : Type} {rel' : Wd → γ → δ → Prop} {Q' : δ → Hp → Prop}
/-- the way on: a part is run, what stands behind it is told of its answer -/
theorem goE {e : Ex} {f : T → Hm → R γ} {Q : VK} (ok : W.Ok G) (rs : Rs G W σ σt) (p : Post G rel' W ((evE Γ e σ W.h).bind f) Q' E)
    (k : ∀ W1 a b, Ext W W1 → W1.Ok G → Rs G W1 σ σt → RT G W1 a b → Post G rel' W1 (f a W1.h) Q' E → Q b W1.H) : tE G Γ E e σt W.H Q :=
  ⟨W, σ, rfl, ok, rs, p.seq.mono fun b H1 ⟨W1, a, e1, ex, ok1, r, q⟩ => e1 ▸ k W1 a b ex ok1 (rs.ext ex) r q⟩
theorem goA {es : List Ex} {f : List T → Hm → R γ} {Q : List V → Hp → Prop} (ok : W.Ok G) (rs : Rs G W σ σt) (p : Post G rel' W ((evEs Γ es σ W.h).bind f) Q' E)
    (k : ∀ W1 a b, Ext W W1 → W1.Ok G → Rs G W1 σ σt → RTs G W1 a b → Post G rel' W1 (f a W1.h) Q' E → Q b W1.H) : tA G Γ E es σt W.H Q :=
  ⟨W, σ, rfl, ok, rs, p.seq.mono fun b H1 ⟨W1, a, e1, ex, ok1, r, q⟩ => e1 ▸ k W1 a b ex ok1 (rs.ext ex) r q⟩
theorem goB {e : Ex} {f : Bool → Hm → R γ} {Q : Bool → Hp → Prop} (ok : W.Ok G) (rs : Rs G W σ σt) (p : Post G rel' W ((evB Γ e σ W.h).bind f) Q' E)
    (k : ∀ W1 b, Ext W W1 → W1.Ok G → Rs G W1 σ σt → Post G rel' W1 (f b W1.h) Q' E → Q b W1.H) : tB G Γ E e σt W.H Q :=
  ⟨W, σ, rfl, ok, rs, p.seq.mono fun b H1 ⟨W1, a, e1, ex, ok1, r, q⟩ => e1 ▸ (r ▸ k W1 a ex ok1 (rs.ext ex) q)⟩
theorem goBs {es : List Ex} {f : Bool → Hm → R γ} {Q : Bool → Hp → Prop} (ok : W.Ok G) (rs : Rs G W σ σt) (p : Post G rel' W ((evBs Γ es σ W.h).bind f) Q' E)
    (k : ∀ W1 b, Ext W W1 → W1.Ok G → Rs G W1 σ σt → Post G rel' W1 (f b W1.h) Q' E → Q b W1.H) : tBs G Γ E es σt W.H Q :=
  ⟨W, σ, rfl, ok, rs, p.seq.mono fun b H1 ⟨W1, a, e1, ex, ok1, r, q⟩ => e1 ▸ (r ▸ k W1 a ex ok1 (rs.ext ex) q)⟩
end

theorem pe_imp {X : Cx} {e : Expr} {t t' : TE} (h : PE X e t) (k : ∀ σ H Q, t' σ H Q → t σ H Q) : PE X e t' := ⟨fun pins s σ H Q I q => h.run pins s σ H Q I (k σ H Q q)⟩
theorem pt_imp {X : Cx} {e : Expr} {t t' : TT} (h : PT X e t) (k : ∀ σ H Q, t' σ H Q → t σ H Q) : PT X e t' := ⟨fun pins s σ H Q I q => h.run pins s σ H Q I (k σ H Q q)⟩
theorem pw_imp {X : Cx} {e : Expr} {t t' : TT} (h : PW X e t) (k : ∀ σ H Q, t' σ H Q → t σ H Q) : PW X e t' := ⟨fun wh pins s σ H Q I q => h.run wh pins s σ H Q I (k σ H Q q)⟩
theorem pa_imp {X : Cx} {e : List Expr} {t t' : TA} (h : PA X e t) (k : ∀ σ H Q, t' σ H Q → t σ H Q) : PA X e t' := ⟨fun pos pins s σ H Q I q => h.run pos pins s σ H Q I (k σ H Q q)⟩
theorem ps_imp {X : Cx} {e : Stmt} {t t' : TS} (h : PS X e t) (k : ∀ D σ H, t' D σ H → t D σ H) : PS X e t' := ⟨fun pins s σ H D I q => h.run pins s σ H D I (k D σ H q)⟩
theorem pss_imp {X : Cx} {e : List Stmt} {t t' : TS} (h : PSs X e t) (k : ∀ D σ H, t' D σ H → t D σ H) : PSs X e t' := ⟨fun pins s σ H D I q => h.run pins s σ H D I (k D σ H q)⟩
theorem pg_imp {X : Cx} {e : Expr} {t t' : TG} (h : PG X e t) (k : ∀ v σ H Q, t' v σ H Q → t v σ H Q) : PG X e t' := ⟨fun pins s σ H v u Q I r q => h.run pins s σ H v u Q I r (k v σ H Q q)⟩
theorem pgs_imp {X : Cx} {e : List Expr} {t t' : TGs} (h : PGs X e t) (k : ∀ v σ H Q, t' v σ H Q → t v σ H Q) : PGs X e t' := ⟨fun pins s σ H v u Q I r q => h.run pins s σ H v u Q I r (k v σ H Q q)⟩
theorem pi_imp {X : Cx} {tg e : Expr} {t t' : TI} (h : PI X tg e t) (k : ∀ σ H Q, t' σ H Q → t σ H Q) : PI X tg e t' := ⟨fun pins s σ H Q I q => h.run pins s σ H Q I (k σ H Q q)⟩

section
variable {G : Gx} {Γ : Tw.Env} {E : XK} {X : Cx} {a b c : Expr} {A B C : Ex} {es : List Expr} {As : List Ex} {pos p p2 : Pos}
theorem te_v {i : Nat} {x : PySem.Str} (hN : X.N[i]? = some x) (hv : Vis X.env.scope x) (hd : (x == ("__debug__" : PySem.Str)) = false := by decide) (hcd : (x == ("__classdict__" : PySem.Str)) = false := by decide) : PE X (.Name x pos) (tE G Γ E (.v i)) := by
  refine pe_imp (pe_var hN hv hd hcd) fun σt H Q ⟨W, σ, e, ok, rs, p⟩ => ?_
  subst e
  unfold evE at p
  split at p
  · rename_i t e1
    obtain ⟨v, e2, r⟩ := rs.2 i t trivial e1
    exact ⟨v, e2, Post.here ok p r⟩
  · exact False.elim p
theorem te_k {t : T} {v : V} (h : PE X a (tC v)) (r : ∀ W, RT G W t v) : PE X a (tE G Γ E (.c t)) := by
  refine pe_imp h fun σt H Q ⟨W, σ, e, ok, rs, p⟩ => ?_
  subst e
  exact Post.here (rel := RT G) (a := t) ok p (r W)
theorem te_i {i : Int} {j} : PE X (.Constant (.int i) j pos) (tE G Γ E (.c (.int i))) := te_k pe_int fun _ => rfl
theorem te_b {i : Bool} {j} : PE X (.Constant (.bool i) j pos) (tE G Γ E (.c (.bl i))) := te_k pe_bl fun _ => rfl
theorem te_n {j} : PE X (.Constant .none j pos) (tE G Γ E (.c .non)) := te_k pe_non fun _ => rfl
theorem te_s {x : PySem.Str} {z : List Nat} {j} (h : x = tx z) (hz : z.length ≤ lim) : PE X (.Constant (.str x) j pos) (tE G Γ E (.c (.str z))) := te_k pe_str fun _ => ⟨by rw [h], lim_line hz⟩
/-- a module's constant -/
theorem te_g {x : PySem.Str} {t : T} {v : V} {u : Value} (hg : Gl X x) (hm : X.mg x = some u) (r : RelV v u) (ht : ∀ W, RT G W t v) (hd : (x == ("__debug__" : PySem.Str)) = false := by decide) : PE X (.Name x pos) (tE G Γ E (.c t)) := te_k (pe_glob hg hm r hd) ht
theorem ta_n : PA X [] (tA G Γ E []) := by
  refine pa_imp pa_nil fun σt H Q ⟨W, σ, e, ok, rs, p⟩ => ?_
  subst e
  exact Post.here (rel := RTs G) (a := ([] : List T)) ok p rfl
theorem ta_c (ha : PE X a (tE G Γ E A)) (hr : PA X es (tA G Γ E As)) (hs : starEach (a :: es) X.env = (false, eval a X.env) :: starEach es X.env := by rfl) : PA X (a :: es) (tA G Γ E (A :: As)) := by
  refine pa_imp (pa_cons ha hr hs) fun σt H Q ⟨W, σ, e, ok, rs, p⟩ => ?_
  subst e
  unfold evEs at p
  refine goE ok rs p fun W1 x v ex1 ok1 rs1 r1 p1 => goA ok1 rs1 p1 fun W2 y w ex2 ok2 rs2 r2 p2 => ?_
  exact Post.here (rel := RTs G) (a := x :: y) ok2 p2 ⟨v, w, rfl, RT.ext ex2 _ _ r1, r2⟩
theorem len_line {W : Wd} {l : List T} {vs : List V} (r : RTs G W l vs) (h : l.length ≤ lim) : vs.length ≤ sizeLine := by rw [← r.length]; exact lim_line h
theorem evEs_len {Γ : Tw.Env} : ∀ {es : List Ex} {σ : Sl} {h h' : Hm} {ts : List T}, evEs Γ es σ h = .ok ts h' → ts.length = es.length
  | [], _, _, _, _, e => by unfold evEs at e; cases e; rfl
  | a :: es, σ, h, h', ts, e => by
    unfold evEs at e
    cases q : evE Γ a σ h with
    | ok t h1 =>
      rw [q] at e
      simp only [R.bind] at e
      cases q2 : evEs Γ es σ h1 with
      | ok us h2 =>
        rw [q2] at e
        simp only [R.bind] at e
        cases e
        rw [List.length_cons, List.length_cons, evEs_len q2]
      | exc _ _ _ => rw [q2] at e; cases e
      | bad => rw [q2] at e; cases e
    | exc _ _ _ => rw [q] at e; cases e
    | bad => rw [q] at e; cases e
/-- .. where the number of arguments is told -/
theorem goAl {W : Wd} {σ : Sl} {σt : L2.St} {γ δ : Type} {rel' : Wd → γ → δ → Prop} {Q' : δ → Hp → Prop} {f : List T → Hm → R γ} {Q : List V → Hp → Prop} (ok : W.Ok G) (rs : Rs G W σ σt) (p : Post G rel' W ((evEs Γ As σ W.h).bind f) Q' E)
    (k : ∀ W1 a b, Ext W W1 → W1.Ok G → Rs G W1 σ σt → RTs G W1 a b → a.length = As.length → Post G rel' W1 (f a W1.h) Q' E → Q b W1.H) : tA G Γ E As σt W.H Q := by
  refine ⟨W, σ, rfl, ok, rs, ?_⟩
  cases q : evEs Γ As σ W.h with
  | ok ts h =>
    rw [q] at p
    intro W' b eh ex ok' r
    refine k W' ts b ex ok' (rs.ext ex) r (evEs_len q) ?_
    rw [eh]
    exact Post.later ex p
  | exc c ts h => rw [q] at p; exact p
  | bad => rw [q] at p; exact p
theorem te_t {x1} (h : PA X es (tA G Γ E As)) (hz : decide (As.length ≤ lim) = true := by decide) : PE X (.Tuple es x1 pos) (tE G Γ E (.tup As)) := by
  refine pe_imp (pe_tup h) fun σt H Q ⟨W, σ, e, ok, rs, p⟩ => ?_
  subst e
  unfold evE at p
  refine goAl ok rs p fun W1 x v ex1 ok1 rs1 r1 hl p1 => ⟨len_line r1 (by rw [hl]; exact of_decide_eq_true hz), mk_tup (m := false) ok1 p1 r1⟩
theorem te_l {m : Bool} (h : PA X es (tA G Γ E As)) (hz : decide (As.length ≤ lim) = true := by decide) : PE X (.List es pos) (tE G Γ E (.lst m As)) := by
  refine pe_imp (pe_lst h) fun σt H Q ⟨W, σ, e, ok, rs, p⟩ => ?_
  subst e
  unfold evE at p
  refine goAl ok rs p fun W1 x v ex1 ok1 rs1 r1 hl p1 => ⟨len_line r1 (by rw [hl]; exact of_decide_eq_true hz), mk_lst ok1 p1 r1⟩
theorem te_bin {m : Bool} {op : Op} {o : Operator} (hX : Cn G X) (ha : PE X a (tE G Γ E A)) (hb : PE X b (tE G Γ E B)) (ho : o = opS op := by rfl) : PE X (.BinOp a o b pos) (tE G Γ E (.bin m op A B)) := by
  subst ho
  refine pe_imp (pe_op (binR (E := E) hX.K m op) ha hb) fun σt H Q ⟨W, σ, e, ok, rs, p⟩ => ?_
  subst e
  unfold evE at p
  exact goE ok rs p fun W1 x v ex1 ok1 rs1 r1 p1 => goE ok1 rs1 p1 fun W2 y w ex2 ok2 rs2 r2 p2 => ⟨W2, x, y, rfl, ok2, RT.ext ex2 _ _ r1, r2, p2⟩
theorem te_neg (ha : PE X a (tE G Γ E A)) : PE X (.UnaryOp .USub a pos) (tE G Γ E (.neg A)) := by
  refine pe_imp (pe_un un_neg ha) fun σt H Q ⟨W, σ, e, ok, rs, p⟩ => ?_
  subst e
  unfold evE at p
  refine goE ok rs p fun W1 x v ex1 ok1 rs1 r1 p1 => ?_
  cases x <;> try exact False.elim p1
  cases r1
  exact ⟨_, rfl, Post.here (rel := RT G) (a := .int _) ok1 p1 rfl⟩
theorem ofOmap {W : Wd} {α β δ : Type} {rel : Wd → β → δ → Prop} {o : Option α} {f : α → β} {Q : δ → Hp → Prop} (p : Post G rel W (ofO (o.map f) W.h) Q E) : ∃ x, o = some x ∧ Post G rel W (.ok (f x) W.h) Q E := by
  cases o with
  | none => exact False.elim p
  | some x => exact ⟨x, rfl, p⟩
theorem cmp_post {W : Wd} {t u : T} {x y : V} {op : Cm} {Q : VK} (ok : W.Ok G) (r1 : RT G W t x) (r2 : RT G W u y) (p : PostE G W (ofO ((cmO op (look W.h t) (look W.h u)).map T.bl) W.h) Q E) : rCmp G op x y W.H Q := by
  obtain ⟨k, e, p⟩ := ofOmap p
  exact ⟨W, t, u, k, rfl, ok, r1, r2, e, Post.here (rel := RT G) (a := .bl k) ok p rfl⟩
theorem te_cmp {op : Cm} {o : CmpOp} (hX : Cn G X) (ha : PE X a (tE G Γ E A)) (hb : PE X b (tE G Γ E B)) (ho : o = cmS op := by rfl) (hm : behindInMarks o b = false := by rfl) : PE X (.Compare a [o] [b] pos) (tE G Γ E (.cmp op A B)) := by
  subst ho
  refine pe_imp (pe_cmpR (cmpR hX.K hX.un op) ha hb hm) fun σt H Q ⟨W, σ, e, ok, rs, p⟩ => ?_
  subst e
  unfold evE at p
  exact goE ok rs p fun W1 x v ex1 ok1 rs1 r1 p1 => goE ok1 rs1 p1 fun W2 y w ex2 ok2 rs2 r2 p2 => cmp_post ok2 (RT.ext ex2 _ _ r1) r2 p2
theorem tb_cmp {op : Cm} {o : CmpOp} (hX : Cn G X) (ha : PE X a (tE G Γ E A)) (hb : PE X b (tE G Γ E B)) (ho : o = cmS op := by rfl) (hm : behindInMarks o b = false := by rfl) : PT X (.Compare a [o] [b] pos) (tB G Γ E (.cmp op A B)) := by
  subst ho
  refine pt_imp (pt_cmpR (cmpR hX.K hX.un op) ha hb hm) fun σt H Q ⟨W, σ, e, ok, rs, p⟩ => ?_
  subst e
  unfold evB at p
  refine goE ok rs p fun W1 x v ex1 ok1 rs1 r1 p1 => goE ok1 rs1 p1 fun W2 y w ex2 ok2 rs2 r2 p2 => ?_
  obtain ⟨k, e, p3⟩ := p2.of_ofO
  exact ⟨W2, x, y, k, rfl, ok2, RT.ext ex2 _ _ r1, r2, e, k, rfl, Post.here (rel := fun _ (a b : Bool) => a = b) ok2 p3 rfl⟩
theorem te_cmp2 {op op' : Cm} {o o' : CmpOp} (hX : Cn G X) (ha : PE X a (tE G Γ E A)) (hb : PE X b (tE G Γ E B)) (hc : PE X c (tE G Γ E C)) (ho : o = cmS op := by rfl) (ho' : o' = cmS op' := by rfl) (hm : lastMarks [o, o'] [b, c] = false := by with_unfolding_all rfl) :
    PE X (.Compare a [o, o'] [b, c] pos) (tE G Γ E (.cmp2 op op' A B C)) := by
  subst ho ho'
  refine pe_imp (pe_chain (cmpR hX.K hX.un op) (cmpR hX.K hX.un op') ha hb hc hm) fun σt H Q ⟨W, σ, e, ok, rs, p⟩ => ?_
  subst e
  unfold evE at p
  refine goE ok rs p fun W1 x v ex1 ok1 rs1 r1 p1 => goE ok1 rs1 p1 fun W2 y w ex2 ok2 rs2 r2 p2 => ?_
  split at p2
  · rename_i e
    refine ⟨W2, x, y, true, rfl, ok2, RT.ext ex2 _ _ r1, r2, e, true, rfl, goE ok2 rs2 p2 fun W3 z u ex3 ok3 rs3 r3 p3 => cmp_post ok3 (RT.ext ex3 _ _ r2) r3 p3⟩
  · rename_i e
    exact ⟨W2, x, y, false, rfl, ok2, RT.ext ex2 _ _ r1, r2, e, false, rfl, Post.here (rel := RT G) (a := .bl false) ok2 p2 rfl⟩
  · exact False.elim p2
theorem tb_cmp2 {op op' : Cm} {o o' : CmpOp} (hX : Cn G X) (ha : PE X a (tE G Γ E A)) (hb : PE X b (tE G Γ E B)) (hc : PE X c (tE G Γ E C)) (ho : o = cmS op := by rfl) (ho' : o' = cmS op' := by rfl) (hm : lastMarks [o, o'] [b, c] = false := by with_unfolding_all rfl) :
    PT X (.Compare a [o, o'] [b, c] pos) (tB G Γ E (.cmp2 op op' A B C)) := by
  subst ho ho'
  refine pt_imp (pt_chain (cmpR hX.K hX.un op) (cmpR hX.K hX.un op') ha hb hc hm) fun σt H Q ⟨W, σ, e, ok, rs, p⟩ => ?_
  subst e
  unfold evB at p
  refine goE ok rs p fun W1 x v ex1 ok1 rs1 r1 p1 => goE ok1 rs1 p1 fun W2 y w ex2 ok2 rs2 r2 p2 => ?_
  split at p2
  · rename_i e
    refine ⟨W2, x, y, true, rfl, ok2, RT.ext ex2 _ _ r1, r2, e, true, rfl, goE ok2 rs2 p2 fun W3 z u ex3 ok3 rs3 r3 p3 => ?_⟩
    obtain ⟨k, e, p4⟩ := p3.of_ofO
    exact ⟨W3, y, z, k, rfl, ok3, RT.ext ex3 _ _ r2, r3, e, k, rfl, Post.here (rel := fun _ (a b : Bool) => a = b) ok3 p4 rfl⟩
  · rename_i e
    exact ⟨W2, x, y, false, rfl, ok2, RT.ext ex2 _ _ r1, r2, e, false, rfl, false, rfl, Post.here (rel := fun _ (a b : Bool) => a = b) ok2 p2 rfl⟩
  · exact False.elim p2
theorem tru_post {W : Wd} {t : T} {x : V} {Q : Bool → Hp → Prop} (hX : Cn G X) (ok : W.Ok G) (r : RT G W t x) (p : PostB G W (ofO (truth (look W.h t)) W.h) Q E) : ∃ k, TruV X.K x W.H k ∧ Q k W.H := by
  obtain ⟨k, e, p⟩ := p.of_ofO
  exact ⟨k, hX.K ▸ truV (look_LT ok r) e, Post.here (rel := fun _ (a b : Bool) => a = b) ok p rfl⟩
/-- and, or, not as values -/
theorem te_one {op} (h : PE X a (tE G Γ E A)) : PE X (.BoolOp op [a] pos) (tE G Γ E A) := pe_one h
theorem te_and (hX : Cn G X) (ha : PE X a (tE G Γ E A)) (hb : PE X (.BoolOp .And (b :: es) pos) (tE G Γ E B)) : PE X (.BoolOp .And (a :: b :: es) pos) (tE G Γ E (.and A B)) := by
  refine pe_imp (pe_andT ha hb) fun σt H Q ⟨W, σ, e, ok, rs, p⟩ => ?_
  subst e
  unfold evE at p
  refine goE ok rs p fun W1 x v ex1 ok1 rs1 r1 p1 => ?_
  split at p1
  · rename_i e
    exact ⟨true, hX.K ▸ truV (look_LT ok1 r1) e, ⟨W1, σ, rfl, ok1, rs1, p1⟩⟩
  · rename_i e
    exact ⟨false, hX.K ▸ truV (look_LT ok1 r1) e, Post.here (rel := RT G) ok1 p1 r1⟩
  · exact False.elim p1
theorem te_or (hX : Cn G X) (ha : PE X a (tE G Γ E A)) (hb : PE X (.BoolOp .Or (b :: es) pos) (tE G Γ E B)) : PE X (.BoolOp .Or (a :: b :: es) pos) (tE G Γ E (.or A B)) := by
  refine pe_imp (pe_orT ha hb) fun σt H Q ⟨W, σ, e, ok, rs, p⟩ => ?_
  subst e
  unfold evE at p
  refine goE ok rs p fun W1 x v ex1 ok1 rs1 r1 p1 => ?_
  split at p1
  · rename_i e
    exact ⟨false, hX.K ▸ truV (look_LT ok1 r1) e, ⟨W1, σ, rfl, ok1, rs1, p1⟩⟩
  · rename_i e
    exact ⟨true, hX.K ▸ truV (look_LT ok1 r1) e, Post.here (rel := RT G) ok1 p1 r1⟩
  · exact False.elim p1
theorem te_not (hX : Cn G X) (ha : PE X a (tE G Γ E A)) : PE X (.UnaryOp .Not a pos) (tE G Γ E (.not A)) := by
  refine pe_imp (pe_notT ha) fun σt H Q ⟨W, σ, e, ok, rs, p⟩ => ?_
  subst e
  unfold evE at p
  refine goE ok rs p fun W1 x v ex1 ok1 rs1 r1 p1 => ?_
  obtain ⟨k, e, p2⟩ := ofOmap p1
  exact ⟨k, hX.K ▸ truV (look_LT ok1 r1) e, Post.here (rel := RT G) (a := .bl _) ok1 p2 rfl⟩
/-- and, or, not as tests -/
theorem tw_and1 (h : PT X a (tB G Γ E A)) : PW X (.BoolOp .And [a] pos) (tB G Γ E A) := pw_and1 h
theorem tw_or1 (h : PT X a (tB G Γ E A)) : PW X (.BoolOp .Or [a] pos) (tB G Γ E A) := pw_or1 h
theorem tw_and (ha : PT X a (tB G Γ E A)) (hb : PW X (.BoolOp .And (b :: es) pos) (tB G Γ E B)) : PW X (.BoolOp .And (a :: b :: es) pos) (tB G Γ E (.and A B)) := by
  refine pw_imp (pw_and ha hb) fun σt H Q ⟨W, σ, e, ok, rs, p⟩ => ?_
  subst e
  unfold evB at p
  refine goB ok rs p fun W1 k ex1 ok1 rs1 p1 => ?_
  cases k with
  | true => exact ⟨W1, σ, rfl, ok1, rs1, p1⟩
  | false => exact Post.here (rel := fun _ (a b : Bool) => a = b) (a := false) ok1 p1 rfl
theorem tw_or (ha : PT X a (tB G Γ E A)) (hb : PW X (.BoolOp .Or (b :: es) pos) (tB G Γ E B)) : PW X (.BoolOp .Or (a :: b :: es) pos) (tB G Γ E (.or A B)) := by
  refine pw_imp (pw_or ha hb) fun σt H Q ⟨W, σ, e, ok, rs, p⟩ => ?_
  subst e
  unfold evB at p
  refine goB ok rs p fun W1 k ex1 ok1 rs1 p1 => ?_
  cases k with
  | false => exact ⟨W1, σ, rfl, ok1, rs1, p1⟩
  | true => exact Post.here (rel := fun _ (a b : Bool) => a = b) (a := true) ok1 p1 rfl
theorem tb_not (ha : PT X a (tB G Γ E A)) : PT X (.UnaryOp .Not a pos) (tB G Γ E (.not A)) := by
  refine pt_imp (pt_not ha) fun σt H Q ⟨W, σ, e, ok, rs, p⟩ => ?_
  subst e
  unfold evB at p
  exact goB ok rs p fun W1 k ex1 ok1 rs1 p1 => Post.here (rel := fun _ (a b : Bool) => a = b) ok1 p1 rfl
theorem te_ite (hc : PT X c (tB G Γ E C)) (ha : PE X a (tE G Γ E A)) (hb : PE X b (tE G Γ E B)) : PE X (.IfExp c a b pos) (tE G Γ E (.ite C A B)) := by
  refine pe_imp (pe_ifExp hc ha hb) fun σt H Q ⟨W, σ, e, ok, rs, p⟩ => ?_
  subst e
  unfold evE at p
  refine goB ok rs p fun W1 k ex1 ok1 rs1 p1 => ?_
  cases k with
  | true => exact ⟨W1, σ, rfl, ok1, rs1, p1⟩
  | false => exact ⟨W1, σ, rfl, ok1, rs1, p1⟩
/-- a value as a test -/
theorem tb_val (hX : Cn G X) (ha : PE X a (tE G Γ E A)) (hv : ∀ σ h, evB Γ A σ h = (evE Γ A σ h).bind fun x h => ofO (truth (look h x)) h) (he : ∀ whole, isTrue a X.env whole = (do let v ← whole; standAt a.pos; holding [v] (truthy v)) := by intro _; rfl) : PT X a (tB G Γ E A) := by
  refine pt_imp (pt_truth ha he) fun σt H Q ⟨W, σ, e, ok, rs, p⟩ => ?_
  subst e
  rw [hv] at p
  exact goE ok rs p fun W1 x v ex1 ok1 rs1 r1 p1 => tru_post hX ok1 r1 p1
theorem R_bind_assoc {α β γ : Type} (r : R α) (f : α → Hm → R β) (g : β → Hm → R γ) : (r.bind f).bind g = r.bind fun a h => (f a h).bind g := by cases r <;> rfl
theorem bv_v (i : Nat) (σ : Sl) (h : Hm) : evB Γ (.v i) σ h = (evE Γ (.v i) σ h).bind fun x h => ofO (truth (look h x)) h := by
  unfold evB evE
  split <;> simp_all
theorem bv_call (f : Nat) (es : List Ex) (σ : Sl) (h : Hm) : evB Γ (.call f es) σ h = (evE Γ (.call f es) σ h).bind fun x h => ofO (truth (look h x)) h := by
  have e : evE Γ (.call f es) σ h = (evEs Γ es σ h).bind fun ts h => Γ.cf f ts h := by rw [evE]
  rw [e]
  unfold evB
  rw [R_bind_assoc]
theorem bv_ix (A B : Ex) (σ : Sl) (h : Hm) : evB Γ (.ix A B) σ h = (evE Γ (.ix A B) σ h).bind fun x h => ofO (truth (look h x)) h := by
  have e : evE Γ (.ix A B) σ h = (evE Γ A σ h).bind fun x h => (evE Γ B σ h).bind fun y h => ofO (ixO (look h x) y) h := by rw [evE]
  rw [e]
  unfold evB
  simp only [R_bind_assoc]
/-- places, slices -/
theorem te_ix (hX : Cn G X) (ha : PE X a (tE G Γ E A)) (hb : PE X b (tE G Γ E B)) (hs : PlainIx b := by intro _ _; rfl) : PE X (.Subscript a b pos) (tE G Γ E (.ix A B)) := by
  refine pe_imp (pe_ix (ixR hX.K) ha hb hs) fun σt H Q ⟨W, σ, e, ok, rs, p⟩ => ?_
  subst e
  unfold evE at p
  refine goE ok rs p fun W1 x v ex1 ok1 rs1 r1 p1 => goE ok1 rs1 p1 fun W2 y w ex2 ok2 rs2 r2 p2 => ?_
  obtain ⟨r, e, p3⟩ := p2.of_ofO
  exact ⟨W2, x, y, r, rfl, ok2, RT.ext ex2 _ _ r1, r2, e, fun v q => Post.here ok2 p3 q⟩
/-- a part of a slice: what its reading asks -/
def PtO (G : Gx) (Γ : Tw.Env) (E : XK) (L : List Ex) (tl : TO) : Prop := ∀ (σt : L2.St) (W : Wd) (σ : Sl) (f : Option Int → Hm → R T) (Q : VK) (Q2 : Option Int → Hp → Prop), W.Ok G → Rs G W σ σt →
  PostE G W ((evEs Γ L σ W.h).bind fun x h => match optI x with | some o => f o h | none => .bad) Q E → (∀ W1 o, Ext W W1 → W1.Ok G → Rs G W1 σ σt → PostE G W1 (f o W1.h) Q E → Q2 o W1.H) → tl σt W.H Q2
theorem pt_none : PtO G Γ E [] tNoPart := by
  intro σt W σ f Q Q2 ok rs p k
  have e : evEs Γ [] σ W.h = .ok [] W.h := by rw [evEs]
  rw [e] at p
  exact k W none (.refl W) ok rs p
theorem pt_some : PtO G Γ E [A] (tPart (tE G Γ E A)) := by
  intro σt W σ f Q Q2 ok rs p k
  have e : evEs Γ [A] σ W.h = (evE Γ A σ W.h).bind fun t h => .ok [t] h := by rw [evEs]; simp only [evEs]; rfl
  rw [e, R_bind_assoc] at p
  refine goE ok rs p fun W1 x v ex1 ok1 rs1 r1 p1 => ?_
  cases x <;> try exact False.elim p1
  cases r1
  exact ⟨_, rfl, k W1 _ ex1 ok1 rs1 p1⟩
theorem te_sl {m : Bool} {lo hi : Option Expr} {L U : List Ex} {tl th : TO} (hX : Cn G X) (ha : PE X a (tE G Γ E A)) (hl : PO X lo tl) (kl : PtO G Γ E L tl) (hu : PO X hi th) (ku : PtO G Γ E U th) :
    PE X (.Subscript a (.Slice lo hi none p2) pos) (tE G Γ E (.sl m A L U)) := by
  refine pe_imp (pe_slice (slR (E := E) hX.K m) ha hl hu) fun σt H Q ⟨W, σ, e, ok, rs, p⟩ => ?_
  subst e
  unfold evE at p
  refine goE ok rs p fun W1 x v ex1 ok1 rs1 r1 p1 => ?_
  refine kl _ W1 σ (fun l h => (evEs Γ U σ h).bind fun u h => match optI u with | some u => (ofO (cutO l u (look h x)) h).bind fun t h => mk m t h | none => .bad) Q _ ok1 rs1 p1 fun W2 l ex2 ok2 rs2 q2 => ?_
  exact ku _ W2 σ (fun u h => (ofO (cutO l u (look h x)) h).bind fun t h => mk m t h) Q _ ok2 rs2 q2 fun W3 u ex3 ok3 rs3 q3 => ⟨W3, x, rfl, ok3, RT.ext (ex2.trans ex3) _ _ r1, q3⟩
/-- a[:], a[lo:], a[:hi], a[lo:hi] -/
theorem te_sl00 {m : Bool} (hX : Cn G X) (ha : PE X a (tE G Γ E A)) : PE X (.Subscript a (.Slice none none none p2) pos) (tE G Γ E (.sl m A [] [])) := te_sl hX ha po_none pt_none po_none pt_none
theorem te_sl10 {m : Bool} (hX : Cn G X) (ha : PE X a (tE G Γ E A)) (hb : PE X b (tE G Γ E B)) : PE X (.Subscript a (.Slice (some b) none none p2) pos) (tE G Γ E (.sl m A [B] [])) := te_sl hX ha (po_some hb) pt_some po_none pt_none
theorem te_sl01 {m : Bool} (hX : Cn G X) (ha : PE X a (tE G Γ E A)) (hb : PE X b (tE G Γ E B)) : PE X (.Subscript a (.Slice none (some b) none p2) pos) (tE G Γ E (.sl m A [] [B])) := te_sl hX ha po_none pt_none (po_some hb) pt_some
theorem te_sl11 {m : Bool} (hX : Cn G X) (ha : PE X a (tE G Γ E A)) (hb : PE X b (tE G Γ E B)) (hc : PE X c (tE G Γ E C)) : PE X (.Subscript a (.Slice (some b) (some c) none p2) pos) (tE G Γ E (.sl m A [B] [C])) := te_sl hX ha (po_some hb) pt_some (po_some hc) pt_some
theorem te_rev {m : Bool} {k p1 p3 p4} (hX : Cn G X) (ha : PE X a (tE G Γ E A)) : PE X (.Subscript a (.Slice none none (some (.UnaryOp .USub (.Constant (.int 1) k p1) p3)) p4) pos) (tE G Γ E (.rev m A)) := by
  refine pe_imp (pe_rev (G := G) (m := m) (E := E) hX.K ha) fun σt H Q ⟨W, σ, e, ok, rs, p⟩ => ?_
  subst e
  unfold evE at p
  exact goE ok rs p fun W1 x v ex1 ok1 rs1 r1 p1 => ⟨W1, x, rfl, ok1, r1, p1⟩
/-- built-ins, methods, isinstance -/
theorem te_bi {m : Bool} {f : Bi} {id : String} {x : PySem.Str} (hf : biV f = .builtin id) (hgd : f = .repr → X.A.guards = some []) (hX : Cn G X) (hg : Gl X x) (hm : X.mg x = none) (hv : bootBuiltins x = some (.builtin id)) (ha : PA X (a :: es) (tA G Γ E As))
    (hn : x ≠ "__name__" := by decide) (hdb : (x == ("__debug__" : PySem.Str)) = false := by decide) (he : starEach (a :: es) X.env = (false, eval a X.env) :: starEach es X.env := by rfl) (hpl : (backTo pos (starEach es X.env)).any (·.1) = false := by rfl) :
    PE X (.Call (.Name x p) (a :: es) [] pos) (tE G Γ E (.bi m f As)) := by
  refine pe_imp (pe_callB (hf ▸ biR (E := E) hX.K hX.calm hX.un m f hgd) hg hm hv ha hn hdb he hpl) fun σt H Q ⟨W, σ, e, ok, rs, p⟩ => ?_
  subst e
  unfold evE at p
  exact goA ok rs p fun W1 x v ex1 ok1 rs1 r1 p1 => ⟨W1, x, rfl, ok1, r1, p1⟩
theorem te_bt {m : Bool} {f : Bi} {T : String} {x : PySem.Str} (hf : biV f = .type T) (hX : Cn G X) (hg : Gl X x) (hm : X.mg x = none) (hv : bootBuiltins x = some (.type T)) (ha : PA X (a :: es) (tA G Γ E As))
    (hn : x ≠ "__name__" := by decide) (hdb : (x == ("__debug__" : PySem.Str)) = false := by decide) (he : starEach (a :: es) X.env = (false, eval a X.env) :: starEach es X.env := by rfl) (hpl : (backTo pos (starEach es X.env)).any (·.1) = false := by rfl) :
    PE X (.Call (.Name x p) (a :: es) [] pos) (tE G Γ E (.bi m f As)) := by
  have nr : f ≠ .repr := fun z => by subst z; cases hf
  refine pe_imp (pe_callTy (hf ▸ biR (E := E) hX.K hX.calm hX.un m f (fun z => absurd z nr)) hg hm hv ha hn hdb he hpl) fun σt H Q ⟨W, σ, e, ok, rs, p⟩ => ?_
  subst e
  unfold evE at p
  exact goA ok rs p fun W1 x v ex1 ok1 rs1 r1 p1 => ⟨W1, x, rfl, ok1, r1, p1⟩
theorem te_me {f : Me} {name : PySem.Str} {apos cpos : Pos} {e : Expr} (hX : Cn G X) (pa : PlainAttrs (meT f)) (slot : Slot (meT f) name (meI f)) (hty : typeOf (.builtin (meI f)) = pure (.type "method_descriptor")) (ho : PE X a (tE G Γ E A)) (ha : PA X (e :: es) (tA G Γ E As))
    (hbase : attributeBase a name X.env (eval a X.env) = eval a X.env := by rfl)
    (hfew : ((backTo cpos (starEach (e :: es) X.env)).all (fun x => !x.1) && (backToKw cpos (keywordEach [] X.env)).all (fun x => x.1.isSome)
      && decide ((e :: es).length + ([] : List Keyword).length + (if ([] : List Keyword).isEmpty then 0 else 1) < 30)) = true := by rfl)
    (hline : (apos.endLine == cpos.line) = true := by rfl) (hs : starEach (e :: es) X.env = (false, eval e X.env) :: starEach es X.env := by rfl) (hplain : (backTo cpos (starEach es X.env)).any (·.1) = false := by rfl) :
    PE X (.Call (.Attribute a name apos) (e :: es) [] cpos) (tE G Γ E (.me f A As)) := by
  refine pe_imp (pe_bm pa slot hty (meRR (E := E) hX.K f) ho ha hbase hfew hline hs hplain) fun σt H Q ⟨W, σ, e, ok, rs, p⟩ => ?_
  subst e
  unfold evE at p
  refine goE ok rs p fun W1 x v ex1 ok1 rs1 r1 p1 => ?_
  split at p1
  · rename_i e
    exact ⟨hX.K ▸ meTy (look_LT ok1 r1) e, goA ok1 rs1 p1 fun W2 y w ex2 ok2 rs2 r2 p2 => ⟨W2, x, y, rfl, ok2, RT.ext ex2 _ _ r1, r2, p2⟩⟩
  · exact False.elim p1
theorem te_app {apos cpos : Pos} {e : Expr} (hX : Cn G X) (ho : PE X a (tE G Γ E A)) (ha : PA X [e] (tA G Γ E As))
    (hbase : attributeBase a "append" X.env (eval a X.env) = eval a X.env := by rfl)
    (hfew : ((backTo cpos (starEach [e] X.env)).all (fun x => !x.1) && (backToKw cpos (keywordEach [] X.env)).all (fun x => x.1.isSome)
      && decide ([e].length + ([] : List Keyword).length + (if ([] : List Keyword).isEmpty then 0 else 1) < 30)) = true := by rfl)
    (hline : (apos.endLine == cpos.line) = true := by rfl) (hs : starEach [e] X.env = (false, eval e X.env) :: starEach [] X.env := by rfl) (hplain : (backTo cpos (starEach [] X.env)).any (·.1) = false := by rfl) :
    PE X (.Call (.Attribute a "append" apos) [e] [] cpos) (tE G Γ E (.me .append A As)) :=
  te_me (f := .append) hX PySem.F.plainAttrs_list PySem.F.slot_list_append PySem.F.type_list_append ho ha hbase hfew hline hs hplain
theorem te_join {apos cpos : Pos} {e : Expr} (hX : Cn G X) (ho : PE X a (tE G Γ E A)) (ha : PA X [e] (tA G Γ E As))
    (hbase : attributeBase a "join" X.env (eval a X.env) = eval a X.env := by rfl)
    (hfew : ((backTo cpos (starEach [e] X.env)).all (fun x => !x.1) && (backToKw cpos (keywordEach [] X.env)).all (fun x => x.1.isSome)
      && decide ([e].length + ([] : List Keyword).length + (if ([] : List Keyword).isEmpty then 0 else 1) < 30)) = true := by rfl)
    (hline : (apos.endLine == cpos.line) = true := by rfl) (hs : starEach [e] X.env = (false, eval e X.env) :: starEach [] X.env := by rfl) (hplain : (backTo cpos (starEach [] X.env)).any (·.1) = false := by rfl) :
    PE X (.Call (.Attribute a "join" apos) [e] [] cpos) (tE G Γ E (.me .join A As)) :=
  te_me (f := .join) hX PySem.F.plainAttrs_str PySem.F.slot_str_join PySem.F.type_str_join ho ha hbase hfew hline hs hplain
theorem te_isi {y : Ty} {x : PySem.Str} {p3 : Pos} (hX : Cn G X) (hg : Gl X "isinstance") (hm : X.mg "isinstance" = none) (hg2 : Gl X x) (hm2 : X.mg x = none) (hv : bootBuiltins x = some (.type (tyS y))) (ha : PE X a (tE G Γ E A)) (hvi : bootBuiltins "isinstance" = some (.builtin "isinstance") := by rfl)
    (hn : x ≠ "__name__" := by decide) (hdb : (x == ("__debug__" : PySem.Str)) = false := by decide)
    (he : starEach [a, .Name x p2] X.env = (false, eval a X.env) :: starEach [.Name x p2] X.env := by rfl) (he2 : starEach [.Name x p2] X.env = (false, eval (.Name x p2) X.env) :: starEach [] X.env := by rfl) (hpl : (backTo pos (starEach [.Name x p2] X.env)).any (·.1) = false := by rfl) :
    PE X (.Call (.Name "isinstance" p) [a, .Name x p2] [] pos) (tE G Γ E (.isi A y)) := by
  refine pe_imp (pe_callB (isiR hX.K y) hg hm hvi (pa_cons ha (pa_cons (pe_bltn (v := .ty (tyS y)) hg2 hm2 hv rfl hn hdb) pa_nil he2) he) (by decide) (by decide) he hpl) fun σt H Q ⟨W, σ, e, ok, rs, p⟩ => ?_
  subst e
  unfold evE at p
  refine goE ok rs p fun W1 x v ex1 ok1 rs1 r1 p1 => ?_
  obtain ⟨k, e, p2⟩ := ofOmap p1
  exact ⟨W1, x, v, k, rfl, rfl, ok1, r1, e, Post.here (rel := RT G) (a := .bl k) ok1 p2 rfl⟩
theorem bv_isi (A : Ex) (y : Ty) (σ : Sl) (h : Hm) : evB Γ (.isi A y) σ h = (evE Γ (.isi A y) σ h).bind fun x h => ofO (truth (look h x)) h := by
  have e : evE Γ (.isi A y) σ h = (evE Γ A σ h).bind fun x h => ofO ((isiO (look h x) y).map T.bl) h := by rw [evE]
  rw [e]
  unfold evB
  rw [R_bind_assoc]
  congr 1
  funext x h
  cases isiO (look h x) y <;> rfl
/-- frozen -/
theorem frz_post {W1 : Wd} {x : T} {v : V} {Q : VK} (ok1 : W1.Ok G) (r1 : RT G W1 x v) (p1 : PostE G W1 (frzR x W1.h) Q E) : Q v W1.H := by
  unfold frzR at p1
  split at p1
  · rename_i i
    obtain ⟨ad, hb, rfl⟩ := r1
    have fin : ∀ {mo : MO} {t : T}, W1.h[i]? = some (some mo) → PostE G W1 (.ok t (W1.h.set i none)) Q E → RT G ⟨W1.H, W1.β, W1.h.set i none⟩ t (.ref ad) → Q (.ref ad) W1.H := fun {mo t} e p1 r => p1 ⟨W1.H, W1.β, W1.h.set i none⟩ _ rfl (.frz i) (ok1.frz i) r
    split at p1
    · rename_i l e
      obtain ⟨vs, h1, r⟩ := ok1.cont i _ ad e hb
      exact fin e p1 ⟨ad, vs, rfl, .inl ⟨.of h1, notM_frz ok1 e hb⟩, RTs.ext (.frz i) _ _ r⟩
    · rename_i l e
      obtain ⟨kvs, h1, k, r⟩ := ok1.cont i _ ad e hb
      exact fin e p1 ⟨ad, kvs, rfl, h1, notM_frz ok1 e hb, k, RTs.ext (.frz i) _ _ r⟩
    · rename_i l e
      obtain ⟨dx, fs, h1, k, r⟩ := ok1.cont i _ ad e hb
      exact fin e p1 ⟨ad, dx, fs, rfl, h1, notM_frz ok1 e hb, k, RTs.ext (.frz i) _ _ r⟩
    · exact False.elim p1
  · exact Post.here ok1 p1 r1
theorem te_frz (ha : PE X a (tE G Γ E A)) : PE X a (tE G Γ E (.frz A)) := by
  refine pe_imp ha fun σt H Q ⟨W, σ, e, ok, rs, p⟩ => ?_
  subst e
  unfold evE at p
  exact goE ok rs p fun W1 x v ex1 ok1 rs1 r1 p1 => frz_post ok1 r1 p1
theorem R_ok {α β : Type} (a : α) (h : Hm) (f : α → Hm → R β) : (R.ok a h).bind f = f a h := rfl
end
end Tw
end
/-! part Tw2g -/
section
set_option Elab.async false
set_option linter.all false
set_option maxRecDepth 100000
/-! Tw2g: zip and enumerate over lists, tuples and texts: one structure of sources. -/
namespace Tw
open PySem PySem.Spec PyProof.Rows L2

theorem FpOk.notBase {X : Cx} {pins : List (Addr × Obj)} {σ : L2.St} {H : Hp} {s : Shared} {b : Addr} (I : Inv X pins σ H s) (f : FpOk X pins H b) : X.base.get? b = none := by
  cases q : X.base.get? b with
  | none => rfl
  | some o =>
    rcases f.2.2.2.1 with z | z
    · exact absurd z (I.ok.noex b o q)
    · exact absurd (Nat.lt_of_lt_of_le (Heap.lt_size (I.ok.bs b o q).1) z) (Nat.lt_irrefl _)
/-- what is walked beside another: u the object's value, xs its items while Gd stands; o the iterator as it is made, It0 what is true of it behind so many items -/
structure SrcU (P : Program) (w : World) (K : PySem.W.Frag) (xs : List V) (Gd : Hp → Prop) (u : Value) (It0 : Addr → Nat → Heap → Prop) (o : Obj) : Prop where
  start : ∀ it h, h.get? it = some o → It0 it 0 h
  obj : ∀ it i h, It0 it i h → ∃ ob, h.get? it = some ob ∧ ∀ v, ob.data ≠ .cell v
  keep : ∀ it i h h', It0 it i h → (∀ ob, h.get? it = some ob → h'.get? it = some ob) → It0 it i h'
  now : ∀ (X : Cx), X.prog = P → X.w = w → X.K = K → ∀ (pins : List (Addr × Obj)) (σ : L2.St) (H : Hp) (s : Shared), Inv X pins σ H s → Gd H → ∃ (fx : List Addr) (Hh : Heap → Prop) (PV : Nat → Value → Prop),
    Begins u o Hh ∧ Hh s.heap ∧ (∀ b ∈ fx, H b ≠ none ∨ ∃ ob, X.base.get? b = some ob) ∧ (∀ (A : Around) (it : Addr), A.handled = none → it ∉ fx → Draws P w A it (it :: fx) xs.length PV (fun i h => It0 it i h ∧ Hh h)) ∧
    (∀ h h', Hh h → (∀ b ∈ fx, ∀ ob, h.get? b = some ob → h'.get? b = some ob) → Hh h') ∧ ∀ i x, PV i x → ∃ y, xs[i]? = some y ∧ RelV y x
section
variable {P : Program} {w : World} {K : PySem.W.Frag} {xs ys : List V}
theorem src_list {a : Addr} : SrcU P w K xs (fun H => SqL K H a xs) (.ref a) (fun it i h => h.IsListIter it a i) { cls := .type "list_iterator", data := .fields #[.ref a, .int 0 0] } where
  start := fun it h e => ⟨_, e, rfl, rfl⟩
  obj := fun it i h ⟨o, e, c, d⟩ => ⟨o, e, fun v z => by rw [d] at z; cases z⟩
  keep := fun it i h h' st k => st.at k
  now := by
    intro X hP hw hK pins σ H s I g
    subst hP hw hK
    obtain ⟨its, r, p, hz⟩ := I.list g
    have hl := r.length
    refine ⟨[a], fun h => h.IsList a its.toArray, fun i v => its.toArray[i]? = some v, begins_list a its.toArray, p.isList, fun b hb => ?_, fun A it hh hne => ?_, fun h h' q k => q.at fun ob e => k a (by simp) ob e, fun i x e => ?_⟩
    · have e : b = a := by simpa using hb
      subst e
      rcases g with (g | ⟨_, g⟩) | ⟨o, _, _, hk, _⟩
      · exact .inl (by rw [g]; simp)
      · exact .inl (by rw [g]; simp)
      · exact .inr ⟨o, I.mod.kin _ _ hk⟩
    · have e : xs.length = its.toArray.size := by simp [hl]
      rw [e]
      exact Draws.list hh it a (fun z => hne (by simp [z])) its.toArray
    · have e' : its[i]? = some x := by simpa using e
      cases q : xs[i]? with
      | none => rw [r.none_of q] at e'; cases e'
      | some y =>
        obtain ⟨u, h1, h2⟩ := r.get q
        rw [e'] at h1; cases h1
        exact ⟨y, rfl, h2⟩
theorem src_tup {a : Addr} : SrcU P w K xs (fun H => SqT K H a xs) (.ref a) (fun it i h => h.IsTupleIter it a i) { cls := .type "tuple_iterator", data := .fields #[.ref a, .int 0 0] } where
  start := fun it h e => ⟨_, e, rfl, rfl⟩
  obj := fun it i h ⟨o, e, c, d⟩ => ⟨o, e, fun v z => by rw [d] at z; cases z⟩
  keep := fun it i h h' st k => st.at k
  now := by
    intro X hP hw hK pins σ H s I g
    subst hP hw hK
    obtain ⟨its, r, p, hz⟩ := I.tuple g
    have hl := r.length
    refine ⟨[a], fun h => h.IsTuple a its.toArray, fun i v => its.toArray[i]? = some v, begins_tuple a its.toArray, p, fun b hb => ?_, fun A it hh hne => ?_, fun h h' q k => q.at fun ob e => k a (by simp) ob e, fun i x e => ?_⟩
    · have e : b = a := by simpa using hb
      subst e
      rcases g with (g | ⟨_, g⟩) | ⟨o, _, _, hk, _⟩
      · exact .inl (by rw [g]; simp)
      · exact .inl (by rw [g]; simp)
      · exact .inr ⟨o, I.mod.kin _ _ hk⟩
    · have e : xs.length = its.toArray.size := by simp [hl]
      rw [e]
      exact Draws.tuple hh it a (fun z => hne (by simp [z])) its.toArray
    · have e' : its[i]? = some x := by simpa using e
      cases q : xs[i]? with
      | none => rw [r.none_of q] at e'; cases e'
      | some y =>
        obtain ⟨u, h1, h2⟩ := r.get q
        rw [e'] at h1; cases h1
        exact ⟨y, rfl, h2⟩
theorem src_str {x : PySem.Str} {t : Tok} : SrcU P w K (x.cps.toList.map fun c => V.str ⟨#[c]⟩) (fun _ => True) (.str x t) (fun it i h => h.IsStrIter it (strIterType x) x t i) { cls := .type (strIterType x), data := .fields #[.str x t, .int 0 0] } where
  start := fun it h e => ⟨_, e, rfl, rfl⟩
  obj := fun it i h ⟨o, e, c, d⟩ => ⟨o, e, fun v z => by rw [d] at z; cases z⟩
  keep := fun it i h h' st k => by
    obtain ⟨o, e, c, d⟩ := st
    exact ⟨o, k o e, c, d⟩
  now := by
    intro X hP hw hK pins σ H s I g
    subst hP hw hK
    refine ⟨[], fun _ => True, fun i v => ∃ c u, x.cps[i]? = some c ∧ v = .str ⟨#[c]⟩ u, begins_text x t, trivial, fun b hb => absurd hb (by simp), fun A it hh _ => ?_, fun _ _ _ _ => trivial, fun i y ⟨c, u, e, ey⟩ => ?_⟩
    · have D := Draws.text (prog := X.prog) (w := X.w) hh it x t
      have e : (x.cps.toList.map fun c => V.str ⟨#[c]⟩).length = x.cps.size := by simp
      rw [e]
      exact ⟨fun i h st => D.live i h st.1, fun i h h' st k => ⟨D.frame i h h' st.1 k, trivial⟩, fun i s Q E hi st hQ => D.item i s Q E hi st.1 fun y h' tk a b c => hQ y h' tk a ⟨b, trivial⟩ c, fun s Q E st hE => D.done s Q E st.1 hE⟩
    · subst ey
      refine ⟨.str ⟨#[c]⟩, ?_, ⟨_, rfl⟩⟩
      rw [List.getElem?_map]
      have e' : x.cps.toList[i]? = some c := by simpa using e
      rw [e']
      rfl

/-- pairs -/
def JP (Gd : Hp → Prop) (n : Nat) (Y : Nat → V → V → Prop) : L2.It := ⟨fun i H => Gd H ∧ i < n, fun i H v H' => ∃ T x y, v = .ref T ∧ H T = none ∧ H' = upd H T (.tup [x, y]) ∧ Y i x y, fun i H => Gd H ∧ i = n⟩
theorem walk_JP {Gd : Hp → Prop} {n : Nat} {Y : Nat → V → V → Prop} : Walk (JP Gd n Y) n Gd (fun i H v H' => ∃ T x y, v = .ref T ∧ H T = none ∧ H' = upd H T (.tup [x, y]) ∧ Y i x y) :=
  ⟨fun i H hi g => ⟨g, hi⟩, fun H g => ⟨g, rfl⟩, fun i H x H' _ _ y => y⟩
theorem newPair {X : Cx} {pins : List (Addr × Obj)} {σ : L2.St} {H : Hp} {s : Shared} {h' h'' : Heap} {T : Addr} {x y : V} {ux uy : Value} {tk : Nat} {fp : List Addr} (I : Inv X pins σ H s) (hf : ∀ b ∈ fp, FpOk X pins H b) (hT : h''.get? T = some { cls := .type "tuple", data := .seq #[ux, uy] }) (hs : s.heap.objs.size ≤ T)
    (k : ∀ b o, b ∉ fp → s.heap.get? b = some o → h''.get? b = some o) (rx : RelV x ux) (ry : RelV y uy) : Inv X pins σ (upd H T (.tup [x, y])) { s with heap := h'', toks := tk } :=
  I.turnedNew (ch := fp) k hf hs ⟨by show 2 ≤ sizeLine; decide, [ux, uy], .cons rx (.cons ry .nil), ⟨_, hT, rfl, _, rfl⟩⟩
theorem turn_enumS {elts : List Expr} {kk : Nat} {tpos : Pos} {Gd : Hp → Prop} {u : Value} {It0 : Addr → Nat → Heap → Prop} {o : Obj} (S : SrcU P w K xs Gd u It0 o) (e it : Addr) (hne : e ≠ it) :
    Turn P w K (.Tuple elts kk tpos) (JP Gd xs.length fun i x y => x = .int (i : Nat) ∧ xs[i]? = some y) [e, it] e (fun i h => (∃ old, IsEnum h e it ((i : Nat) : Int) old) ∧ It0 it i h) where
  mem := by simp
  obj := fun i h st b hb => by
    obtain ⟨⟨old, he⟩, hi⟩ := st
    have e' : b = e ∨ b = it := by simpa using hb
    rcases e' with rfl | rfl
    · exact ⟨_, he, fun v q => nomatch q⟩
    · exact S.obj _ _ _ hi
  keep := fun i h h' st k => by
    obtain ⟨⟨old, he⟩, hi⟩ := st
    exact ⟨⟨old, k e (by simp) _ he⟩, S.keep _ _ _ _ hi fun ob q => k it (by simp) ob q⟩
  item := by
    intro X hP hw hK hc i pins s σ H E I hf st hg
    obtain ⟨⟨old, he⟩, hi⟩ := st
    obtain ⟨g, hlt⟩ := hg
    obtain ⟨fx, Hh, PV, B, hh, hfx, D, Hk, hV⟩ := S.now X hP hw hK pins σ H s I g
    have out : ∀ b, b ∈ [e, it] → b ∉ fx := fun b hb z => by
      rcases hfx b z with q | ⟨ob, q⟩
      · exact q (hf b hb).1
      · rw [FpOk.notBase I (hf b hb)] at q; cases q
    subst hP hw
    have D' := D X.A.in1 it (show X.A.in1.handled = none from I.ok.hd hc) (out it (by simp))
    have hel : e < s.heap.objs.size := Heap.lt_size he
    have hil : it < s.heap.objs.size := by obtain ⟨_, q, _⟩ := S.obj _ _ _ hi; exact Heap.lt_size q
    refine wpAny_pyNext_enum_itemD D' he ⟨hi, hh⟩ hlt hne (by simp only [List.mem_cons, not_or]; exact ⟨hne, out e (by simp)⟩) fun x h' tk hPx ho hit' hT hsz hk => ?_
    obtain ⟨y, hy, ry⟩ := hV i x hPx
    refine ⟨_, rfl, wpAny_letOwnedTupleGo_enum (s := { s with heap := h', toks := tk + 1 }) ho fun h'' he' sb => ?_⟩
    have hT2 := (sb.2 _ (Nat.ne_of_gt hel)).trans hT
    have I1 := newPair (x := .int (i : Nat)) (y := y) (tk := tk + 1) (h' := h') (h'' := h'') I hf hT2 (Nat.le_refl _) (fun b ob hb q => (sb.2 b (fun z => hb (by simp [z]))).trans (hk b ob (fun z => hb (by simp [z])) (fun z => hb (by simp [z])) q)) ⟨tk, rfl⟩ ry
    refine ⟨.ref s.heap.objs.size, _, I1, rfl, ⟨_, _, y, rfl, I.hok.fresh (Nat.le_refl _), rfl, rfl, hy⟩, ⟨⟨x, ?_⟩, S.keep _ _ _ _ hit'.1 fun ob q => (sb.2 it (Ne.symm hne)).trans q⟩, fun b hb => ?_⟩
    · have e1 : ((i + 1 : Nat) : Int) = (i : Int) + 1 := by omega
      rw [e1]; exact he'
    · have hb' : b < s.heap.objs.size := by
        have e' : b = e ∨ b = it := by simpa using hb
        rcases e' with z | z
        · rw [z]; exact hel
        · rw [z]; exact hil
      rw [upd_ne (Nat.ne_of_lt hb')]
      exact (hf b hb).1
  done := by
    intro X hP hw hK hc i pins s σ H E I hf st hg
    obtain ⟨⟨old, he⟩, hi⟩ := st
    obtain ⟨g, hn⟩ := hg
    subst hn
    obtain ⟨fx, Hh, PV, B, hh, hfx, D, Hk, hV⟩ := S.now X hP hw hK pins σ H s I g
    have out : it ∉ fx := fun z => by
      rcases hfx it z with q | ⟨ob, q⟩
      · exact q (hf it (by simp)).1
      · rw [FpOk.notBase I (hf it (by simp))] at q; cases q
    subst hP hw
    obtain ⟨f0, f1, f2, f3, f4, f5⟩ := hf it (by simp)
    exact wpAny_pyNext_enum_endD (D X.A.in1 it (show X.A.in1.handled = none from I.ok.hd hc) out) he ⟨hi, hh⟩ fun h' eb => ⟨rfl, I.turned (t' := s.toks) (fun b ob hb q => eb b ob hb q) f0 f1 f3 f4 f5⟩
  self := fun A i s Q E st h => let ⟨⟨_, he⟩, _⟩ := st; wpAny_pyIter_enum he h
theorem turn_zipS {elts : List Expr} {kk : Nat} {tpos : Pos} {Gd1 Gd2 : Hp → Prop} {u1 u2 : Value} {It1 It2 : Addr → Nat → Heap → Prop} {o1 o2 : Obj} (S1 : SrcU P w K xs Gd1 u1 It1 o1) (S2 : SrcU P w K ys Gd2 u2 It2 o2) (z TI TO i1 i2 : Addr)
    (n1 : TI ≠ z) (n2 : TO ≠ z) (n3 : TI ≠ TO) (n4 : TI ≠ i1) (n5 : TI ≠ i2) (n6 : z ≠ i1) (n7 : z ≠ i2) (n8 : TO ≠ i1) (n9 : TO ≠ i2) (na : i1 ≠ i2) :
    Turn P w K (.Tuple elts kk tpos) (JP (fun H => Gd1 H ∧ Gd2 H) (min xs.length ys.length) fun i x y => xs[i]? = some x ∧ ys[i]? = some y) [z, TI, TO, i1, i2] z
      (fun i h => IsZip h z TI TO .none ∧ IsTupOf2 h TI (.ref i1) (.ref i2) ∧ (∃ a b, IsTupOf2 h TO a b) ∧ It1 i1 i h ∧ It2 i2 i h) where
  mem := by simp
  obj := fun i h st c hc => by
    obtain ⟨hz, hTI, ⟨a, b, hTO⟩, h1, h2⟩ := st
    have e' : c = z ∨ c = TI ∨ c = TO ∨ c = i1 ∨ c = i2 := by simpa using hc
    rcases e' with rfl | rfl | rfl | rfl | rfl
    · exact ⟨_, hz, fun v q => nomatch q⟩
    · exact ⟨_, hTI, fun v q => nomatch q⟩
    · exact ⟨_, hTO, fun v q => nomatch q⟩
    · exact S1.obj _ _ _ h1
    · exact S2.obj _ _ _ h2
  keep := fun i h h' st k => by
    obtain ⟨hz, hTI, ⟨a, b, hTO⟩, h1, h2⟩ := st
    exact ⟨k z (by simp) _ hz, k TI (by simp) _ hTI, ⟨a, b, k TO (by simp) _ hTO⟩, S1.keep _ _ _ _ h1 fun ob q => k i1 (by simp) ob q, S2.keep _ _ _ _ h2 fun ob q => k i2 (by simp) ob q⟩
  item := by
    intro X hP hw hK hc i pins s σ H E I hf st hg
    obtain ⟨hz, hTI, ⟨a, b, hTO⟩, h1, h2⟩ := st
    obtain ⟨⟨g1, g2⟩, hlt⟩ := hg
    obtain ⟨fx1, Hh1, PV1, B1, hh1, hfx1, D1, k1, V1⟩ := S1.now X hP hw hK pins σ H s I g1
    obtain ⟨fx2, Hh2, PV2, B2, hh2, hfx2, D2, k2, V2⟩ := S2.now X hP hw hK pins σ H s I g2
    have out1 : ∀ c, c ∈ [z, TI, TO, i1, i2] → c ∉ fx1 := fun c hc q => by
      rcases hfx1 c q with r | ⟨ob, r⟩
      · exact r (hf c hc).1
      · rw [FpOk.notBase I (hf c hc)] at r; cases r
    have out2 : ∀ c, c ∈ [z, TI, TO, i1, i2] → c ∉ fx2 := fun c hc q => by
      rcases hfx2 c q with r | ⟨ob, r⟩
      · exact r (hf c hc).1
      · rw [FpOk.notBase I (hf c hc)] at r; cases r
    subst hP hw
    have cal : X.A.in1.handled = none := I.ok.hd hc
    have Z : ZipSep2 z TI TO i1 i2 (i1 :: fx1) (i2 :: fx2) :=
      { TIz := n1, TOz := n2, TITO := n3, TIi1 := n4, mem1 := List.mem_cons_self .., zf1 := by simp only [List.mem_cons, not_or]; exact ⟨n6, out1 z (by simp)⟩, Tf1 := by simp only [List.mem_cons, not_or]; exact ⟨n8, out1 TO (by simp)⟩,
        TIi2 := n5, mem2 := List.mem_cons_self .., zf2 := by simp only [List.mem_cons, not_or]; exact ⟨n7, out2 z (by simp)⟩, Tf2 := by simp only [List.mem_cons, not_or]; exact ⟨n9, out2 TO (by simp)⟩,
        sep1_2 := by simp only [List.mem_cons, not_or]; exact ⟨na, out2 i1 (by simp)⟩, sep2_1 := by simp only [List.mem_cons, not_or]; exact ⟨Ne.symm na, out1 i2 (by simp)⟩ }
    have hzl : z < s.heap.objs.size := Heap.lt_size hz
    refine wpAny_pyNext_zipD2_item Z (D1 X.A.in1 i1 cal (out1 i1 (by simp))) (D2 X.A.in1 i2 cal (out2 i2 (by simp))) hz hTI hTO ⟨h1, hh1⟩ ⟨h2, hh2⟩ (by omega) (by omega) fun x1 x2 h' tk p1 p2 b1 b2 d1 d2 hT hsz hk => ?_
    obtain ⟨y1, e1, r1⟩ := V1 i x1 p1
    obtain ⟨y2, e2, r2⟩ := V2 i x2 p2
    refine ⟨_, rfl, wpAny_letOwnedTupleGo_zip (s := { s with heap := h', toks := tk }) b1 fun h'' z'' sb => ?_⟩
    have hT2 := (sb.2 _ (Nat.ne_of_gt hzl)).trans hT
    have I1 := newPair (tk := tk) (h' := h') (h'' := h'') I hf hT2 (Nat.le_refl _) (fun c ob hb q => (sb.2 c (fun z => hb (by simp [z]))).trans (hk c ob (fun z => hb (by simp [z])) (fun z => hb (by simp [z])) (fun z => hb (by simp [z])) (fun z => hb (by simp [z])) q)) r1 r2
    refine ⟨.ref s.heap.objs.size, _, I1, rfl, ⟨_, y1, y2, rfl, I.hok.fresh (Nat.le_refl _), rfl, e1, e2⟩, ⟨z'', ?_, ⟨x1, x2, ?_⟩, ?_, ?_⟩, fun c hcm => ?_⟩
    · exact (sb.2 _ n1).trans (hk _ _ n1 n3 n4 n5 hTI)
    · exact (sb.2 _ n2).trans b2
    · exact S1.keep _ _ _ _ d1.1 fun ob q => (sb.2 _ (Ne.symm n6)).trans q
    · exact S2.keep _ _ _ _ d2.1 fun ob q => (sb.2 _ (Ne.symm n7)).trans q
    · have hlt : c < s.heap.objs.size := by
        have e' : c = z ∨ c = TI ∨ c = TO ∨ c = i1 ∨ c = i2 := by simpa using hcm
        rcases e' with q | q | q | q | q
        · rw [q]; exact hzl
        · rw [q]; exact Heap.lt_size hTI
        · rw [q]; exact Heap.lt_size hTO
        · rw [q]; obtain ⟨_, e1, _⟩ := S1.obj _ _ _ h1; exact Heap.lt_size e1
        · rw [q]; obtain ⟨_, e2, _⟩ := S2.obj _ _ _ h2; exact Heap.lt_size e2
      rw [upd_ne (Nat.ne_of_lt hlt)]
      exact (hf c hcm).1
  done := by
    intro X hP hw hK hc i pins s σ H E I hf st hg
    obtain ⟨hz, hTI, ⟨a, b, hTO⟩, h1, h2⟩ := st
    obtain ⟨⟨g1, g2⟩, hn⟩ := hg
    obtain ⟨fx1, Hh1, PV1, B1, hh1, hfx1, D1, k1, V1⟩ := S1.now X hP hw hK pins σ H s I g1
    obtain ⟨fx2, Hh2, PV2, B2, hh2, hfx2, D2, k2, V2⟩ := S2.now X hP hw hK pins σ H s I g2
    have out1 : ∀ c, c ∈ [z, TI, TO, i1, i2] → c ∉ fx1 := fun c hc q => by
      rcases hfx1 c q with r | ⟨ob, r⟩
      · exact r (hf c hc).1
      · rw [FpOk.notBase I (hf c hc)] at r; cases r
    have out2 : ∀ c, c ∈ [z, TI, TO, i1, i2] → c ∉ fx2 := fun c hc q => by
      rcases hfx2 c q with r | ⟨ob, r⟩
      · exact r (hf c hc).1
      · rw [FpOk.notBase I (hf c hc)] at r; cases r
    subst hP hw
    have cal : X.A.in1.handled = none := I.ok.hd hc
    have Z : ZipSep2 z TI TO i1 i2 (i1 :: fx1) (i2 :: fx2) :=
      { TIz := n1, TOz := n2, TITO := n3, TIi1 := n4, mem1 := List.mem_cons_self .., zf1 := by simp only [List.mem_cons, not_or]; exact ⟨n6, out1 z (by simp)⟩, Tf1 := by simp only [List.mem_cons, not_or]; exact ⟨n8, out1 TO (by simp)⟩,
        TIi2 := n5, mem2 := List.mem_cons_self .., zf2 := by simp only [List.mem_cons, not_or]; exact ⟨n7, out2 z (by simp)⟩, Tf2 := by simp only [List.mem_cons, not_or]; exact ⟨n9, out2 TO (by simp)⟩,
        sep1_2 := by simp only [List.mem_cons, not_or]; exact ⟨na, out2 i1 (by simp)⟩, sep2_1 := by simp only [List.mem_cons, not_or]; exact ⟨Ne.symm na, out1 i2 (by simp)⟩ }
    refine wpAny_pyNext_zipD2_end Z (D1 X.A.in1 i1 cal (out1 i1 (by simp))) (D2 X.A.in1 i2 cal (out2 i2 (by simp))) hz hTI hTO ⟨h1, hh1⟩ ⟨h2, hh2⟩ (by omega) (by omega) (by omega) fun h' tk hk => ⟨rfl, I.turnedL (t' := tk) (ch := [z, TI, TO, i1, i2]) (fun c o hb q =>
      hk c o (fun q' => hb (by simp [q'])) (fun q' => hb (by simp [q'])) (fun q' => hb (by simp [q'])) (fun q' => hb (by simp [q'])) q) hf⟩
  self := fun A i s Q E st h => wpAny_pyIter_zip st.1 h
end

/-! ### enumerate(v) begins -/
set_option maxHeartbeats 1000000 in
theorem meets_enum1 {v : Value} {o : Obj} {H : Heap → Prop} (B : Begins v o H) :
    Meets (Builtin.«enumerate.__new__» ⟨[.type "enumerate", v], []⟩) (fun _ R s => H s.heap ∧
      R (.ok (.ret (.ref (s.heap.push o).objs.size))) { s with heap := (s.heap.push o).push { cls := .type "enumerate", data := .fields #[.none, .bool false, .ref s.heap.objs.size, rawInt 0, .none, .none] } }) :=
  .of_wp fun prog w A R s h => by
    obtain ⟨hp, g, d, tk, os⟩ := s
    obtain ⟨h1, h⟩ := h
    have hsub := sub_enumerate
    have q1 : ∀ {A' : Around} {E : Value → Shared → Prop} {Q : Value → Shared → Prop}, Q (.ref hp.objs.size) ⟨hp.push o, g, d, tk, os⟩ → wpAny (model prog w) A' (pyIter v) Q E ⟨hp, g, d, tk, os⟩ :=
      fun q => B.iter prog w _ _ ⟨hp, g, d, tk, os⟩ _ h1 q
    wp_walk
    refine wpAny_stack_any fun st => wpAny_pure ?_
    split
    · rename_i c _ _ _ _ _
      cases (c == Value.type "enumerate")
      · wp_walk using q1
        exact ⟨_, rfl, h⟩
      · wp_walk using q1
        exact ⟨_, rfl, h⟩
    · wp_walk using q1
      exact ⟨_, rfl, h⟩
theorem enum1_begins {prog : Program} {w : World} {A : Around} {E : Value → Shared → Prop} {s : Shared} {v : Value} {o : Obj} {H : Heap → Prop} {Q : Value → Shared → Prop} (B : Begins v o H) (h1 : H s.heap)
    (h : ∀ h', IsEnum h' (s.heap.objs.size + 1) s.heap.objs.size 0 .none → h'.get? s.heap.objs.size = some o → (∀ b o, s.heap.get? b = some o → h'.get? b = some o) → Q (.ref (s.heap.objs.size + 1)) { s with heap := h' }) :
    wpAny (model prog w) A (PySem.call (.type "enumerate") [v]) Q E s := by
  refine callType_new F.called_enumerate (by decide) (F.typeCall_enumerate_1 _) (F.newCall_enumerate_1 _) (fun obj => F.args_object_init_2 obj _) F.entry_enumerate_new (meets_enum1 B) ⟨h1, ?_⟩
  have hz : (s.heap.push o).objs.size = s.heap.objs.size + 1 := Heap.size_push ..
  show _ ∧ _
  rw [hz]
  have he := Heap.get?_push_size (s.heap.push o) (o := { cls := .type "enumerate", data := .fields #[.none, .bool false, .ref s.heap.objs.size, rawInt 0, .none, .none] }) rfl
  rw [hz] at he
  exact ⟨⟨_, he, rfl⟩, h _ he (Heap.get?_push_of_some _ (Heap.get?_push_size _ B.free)) fun b ob x => Heap.get?_push_of_some _ (Heap.get?_push_of_some _ x)⟩

/-! ### the loops' and comprehensions' iterables -/
section
variable {X : Cx}
/-- what may be walked: a source for each token -/
def SrcV (P : Program) (w : World) (K : PySem.W.Frag) (v : V) (xs : List V) (Gd : Hp → Prop) : Prop := ∀ u, RelV v u → ∃ It0 o, SrcU P w K xs Gd u It0 o
def iEnumS (X : Cx) (ta : TA) : TI := fun σ H R => ta σ H fun vs H1 => ∃ v xs Gd, vs = [v] ∧ SrcV X.prog X.w X.K v xs Gd ∧ Gd H1 ∧ R (JP Gd xs.length fun i x y => x = .int (i : Nat) ∧ xs[i]? = some y) H1
theorem pi_enumS {e : Expr} {ta : TA} {p pos tpos : Pos} {elts : List Expr} {kk : Nat} (hg : Gl X "enumerate") (hm : X.mg "enumerate" = none) (ha : PA X [e] ta) (hs : starEach [e] X.env = [(false, eval e X.env)] := by rfl) :
    PI X (.Tuple elts kk tpos) (.Call (.Name "enumerate" p) [e] [] pos) (iEnumS X ta) := by
  refine ⟨fun pins s σ H R I h => ?_⟩
  refine Call_ (ld_blt I hg hm boot_enumerate (PyProof.Rows.callWith_type1 (thn (ha.run pos pins s σ H _ I h) fun us s1 ⟨vs, H1, I1, r1, q1⟩ => ?_) hs rfl))
  obtain ⟨v, xs, Gd, rfl, S, g, q⟩ := q1
  obtain ⟨u, rfl, ru⟩ := vals1 r1
  obtain ⟨It0, o, S⟩ := S u ru
  obtain ⟨fx, Hh, PV, B, hh, _⟩ := S.now X rfl rfl rfl pins σ H1 s1 I1 g
  refine enum1_begins B hh fun h' he hit hk => wpAny_pyIter_enum he ?_
  have I2 : Inv X pins σ H1 { s1 with heap := h' } := I1.kept (t' := s1.toks) hk
  refine ⟨s1.heap.objs.size + 1, [s1.heap.objs.size + 1, s1.heap.objs.size], _, _, H1, rfl, I2, turn_enumS S (s1.heap.objs.size + 1) s1.heap.objs.size (Nat.succ_ne_self _), ⟨⟨.none, he⟩, S.start _ _ hit⟩, fun b hb => ?_, q⟩
  have e' : b = s1.heap.objs.size + 1 ∨ b = s1.heap.objs.size := by simpa using hb
  have hle : s1.heap.objs.size ≤ b := by
    rcases e' with z | z
    · rw [z]; exact Nat.le_add_right _ _
    · rw [z]; exact Nat.le_refl _
  exact I1.fpOk hle (I1.hok.fresh hle)
def iZipS (X : Cx) (ta : TA) : TI := fun σ H R => ta σ H fun vs H1 => ∃ v xs Gd v' ys Gd', vs = [v, v'] ∧ SrcV X.prog X.w X.K v xs Gd ∧ Gd H1 ∧ SrcV X.prog X.w X.K v' ys Gd' ∧ Gd' H1 ∧
  R (JP (fun H => Gd H ∧ Gd' H) (min xs.length ys.length) fun i x y => xs[i]? = some x ∧ ys[i]? = some y) H1
theorem pi_zipS {e e2 : Expr} {ta : TA} {p pos tpos : Pos} {elts : List Expr} {kk : Nat} (hg : Gl X "zip") (hm : X.mg "zip" = none) (ha : PA X [e, e2] ta)
    (hs : starEach [e, e2] X.env = (false, eval e X.env) :: starEach [e2] X.env := by rfl) (hpl : (backTo pos (starEach [e2] X.env)).any (·.1) = false := by rfl) :
    PI X (.Tuple elts kk tpos) (.Call (.Name "zip" p) [e, e2] [] pos) (iZipS X ta) := by
  refine ⟨fun pins s σ H R I h => ?_⟩
  refine Call_ (ld_blt I hg hm PyProof.Rows.boot_zip (PyProof.Rows.callWith_type1 (thn (ha.run pos pins s σ H _ I h) fun us s1 ⟨vs, H1, I1, r1, q1⟩ => ?_) hs hpl))
  obtain ⟨v, xs, Gd, v', ys, Gd', rfl, S1, g1, S2, g2, q⟩ := q1
  obtain ⟨u, u', rfl, ru, ru'⟩ := vals2 r1
  obtain ⟨It1, o1, S1⟩ := S1 u ru
  obtain ⟨It2, o2, S2⟩ := S2 u' ru'
  obtain ⟨_, _, _, B1, hh1, _⟩ := S1.now X rfl rfl rfl pins σ H1 s1 I1 g1
  obtain ⟨_, _, _, B2, hh2, _⟩ := S2.now X rfl rfl rfl pins σ H1 s1 I1 g2
  refine zip_begins2 B1 B2 hh1 hh2 fun h' hz hTI hTO e1 e2 hsz hk => wpAny_pyIter_zip hz ?_
  have I2 : Inv X pins σ H1 { s1 with heap := h' } := I1.kept (t' := s1.toks) hk
  have ne : ∀ {a b : Nat}, a ≠ b → s1.heap.objs.size + a ≠ s1.heap.objs.size + b := fun h z => h (Nat.add_left_cancel z)
  have ne0 : ∀ {a : Nat}, a ≠ 0 → s1.heap.objs.size + a ≠ s1.heap.objs.size := fun h z => h (Nat.add_left_cancel (z.trans (Nat.add_zero _).symm))
  refine ⟨s1.heap.objs.size + 4, [s1.heap.objs.size + 4, s1.heap.objs.size + 2, s1.heap.objs.size + 3, s1.heap.objs.size, s1.heap.objs.size + 1], _, _, H1, rfl, I2,
    turn_zipS S1 S2 (s1.heap.objs.size + 4) (s1.heap.objs.size + 2) (s1.heap.objs.size + 3) s1.heap.objs.size (s1.heap.objs.size + 1) (ne (by decide)) (ne (by decide)) (ne (by decide)) (ne0 (by decide)) (ne (by decide)) (ne0 (by decide)) (ne (by decide)) (ne0 (by decide)) (ne (by decide)) (Ne.symm (ne0 (by decide))),
    ⟨hz, hTI, ⟨_, _, hTO⟩, S1.start _ _ e1, S2.start _ _ e2⟩, fun c hcm => ?_, q⟩
  have e' : c = s1.heap.objs.size + 4 ∨ c = s1.heap.objs.size + 2 ∨ c = s1.heap.objs.size + 3 ∨ c = s1.heap.objs.size ∨ c = s1.heap.objs.size + 1 := by simpa using hcm
  have hle : s1.heap.objs.size ≤ c := by
    rcases e' with z | z | z | z | z
    · rw [z]; exact Nat.le_add_right _ _
    · rw [z]; exact Nat.le_add_right _ _
    · rw [z]; exact Nat.le_add_right _ _
    · rw [z]; exact Nat.le_refl _
    · rw [z]; exact Nat.le_add_right _ _
  exact I1.fpOk hle (I1.hok.fresh hle)
end
end Tw
end
/-! part Tw2h -/
section
set_option Elab.async false
set_option linter.all false
set_option maxRecDepth 100000
/-! Tw2h: targets, what is walked, comprehensions. -/
namespace Tw
open PySem PySem.Spec PyProof.Rows L2

/-! ### targets -/
mutual
def Tg.sl : Tg → List Nat
  | .v i => [i]
  | .u l => Tg.sls l
def Tg.sls : List Tg → List Nat
  | [] => []
  | g :: gs => Tg.sl g ++ Tg.sls gs
end
/-- only these slots are another -/
def Upd (s : List Nat) (a b : L2.St) : Prop := b.length = a.length ∧ ∀ (i : Nat), i ∉ s → b[i]? = a[i]?
theorem Upd.refl (a : L2.St) : Upd [] a a := ⟨rfl, fun _ _ => rfl⟩
theorem Upd.trans {s t : List Nat} {a b c : L2.St} (h : Upd s a b) (k : Upd t b c) : Upd (s ++ t) a c :=
  ⟨k.1.trans h.1, fun i hi => by
    simp only [List.mem_append, not_or] at hi
    exact (k.2 i hi.2).trans (h.2 i hi.1)⟩
theorem wipe_in {σ : L2.St} {i : Nat} : ∀ {vs : List Nat}, i ∈ vs → (wipe σ vs)[i]? = if i < σ.length then some none else none
  | v :: vs, h => by
    unfold wipe
    by_cases e : v = i
    · subst e
      by_cases hv : v < σ.length
      · rw [List.getElem?_set_self (by rw [wipe_length]; exact hv), if_pos hv]
      · rw [List.getElem?_eq_none (by rw [List.length_set, wipe_length]; omega), if_neg hv]
    · rw [List.getElem?_set_ne e]
      rcases List.mem_cons.mp h with z | z
      · exact absurd z.symm e
      · exact wipe_in z
theorem wipe_upd {s vs : List Nat} {a b : L2.St} (u : Upd s a b) (h : ∀ i ∈ s, i ∈ vs) : wipe b vs = wipe a vs := by
  apply List.ext_getElem?
  intro i
  by_cases hi : i ∈ vs
  · rw [wipe_in hi, wipe_in hi, u.1]
  · rw [wipe_out hi, wipe_out hi]
    exact u.2 i fun z => hi (h i z)
def tG (G : Gx) (g : Tg) : TG := fun v σt H Q => ∃ W t σ σ' ex, W.H = H ∧ W.Ok G ∧ RT G W t v ∧ Rx G W ex σ σt ∧ g.put t σ = some σ' ∧ ∀ σt', Upd g.sl σt σt' → Rx G W (fun i => ex i ∨ i ∈ g.sl) σ' σt' → Q σt' H
def tGs (G : Gx) (gs : List Tg) : TGs := fun vs σt H Q => ∃ W ts σ σ' ex, W.H = H ∧ W.Ok G ∧ RTs G W ts vs ∧ Rx G W ex σ σt ∧ Tg.puts gs ts σ = some σ' ∧ ∀ σt', Upd (Tg.sls gs) σt σt' → Rx G W (fun i => ex i ∨ i ∈ Tg.sls gs) σ' σt' → Q σt' H
section
variable {G : Gx} {W : Wd} {ex ex' : Nat → Prop} {σ : Sl} {σt : L2.St}
theorem Rx.imp (r : Rx G W ex σ σt) (h : ∀ i, ex' i → ex i) : Rx G W ex' σ σt := ⟨r.1, fun i t hi e => r.2 i t (h i hi) e⟩
theorem Rx.put {i : Nat} {t : T} {v : V} (r : Rx G W ex σ σt) (q : RT G W t v) : Rx G W (fun j => ex j ∨ j ∈ [i]) (σ.set i (some t)) (σt.set i (some v)) := by
  refine ⟨by rw [List.length_set, List.length_set, r.1], fun j u hj e => ?_⟩
  by_cases h : i = j
  · subst h
    have hl : i < σ.length := by
      have := (List.getElem?_eq_some_iff.mp e).1
      rwa [List.length_set] at this
    rw [List.getElem?_set_self hl] at e
    cases e
    exact ⟨v, List.getElem?_set_self (by rw [← r.1]; exact hl), q⟩
  · rw [List.getElem?_set_ne h] at e ⊢
    rcases hj with hj | hj
    · exact r.2 j u hj e
    · exact absurd (List.mem_singleton.mp hj).symm h
theorem upd_set (i : Nat) (v : V) : Upd [i] σt (σt.set i (some v)) := ⟨List.length_set, fun j hj => List.getElem?_set_ne fun z => hj (by simp [z])⟩
theorem puts_len : ∀ {gs : List Tg} {ts : List T} {σ σ' : Sl}, Tg.puts gs ts σ = some σ' → ts.length = gs.length
  | [], [], _, _, _ => rfl
  | [], _ :: _, _, _, h => by simp [Tg.puts] at h
  | _ :: _, [], _, _, h => by simp [Tg.puts] at h
  | g :: gs, t :: ts, σ, σ', h => by
    simp only [Tg.puts] at h
    obtain ⟨σ1, _, h2⟩ := Option.bind_eq_some_iff.mp h
    rw [List.length_cons, List.length_cons, puts_len h2]
end
section
variable {G : Gx} {X : Cx} {pos : Pos}
theorem tg_v {i : Nat} {x : PySem.Str} (hX : Cn G X) (hi : X.N[i]? = some x) (hx : Loc X.env.scope x) (hf : X.fn x = true ∨ X.env.scope.names.lookup x = some .local := by first | exact .inl rfl | exact .inr rfl | assumption) : PG X (.Name x pos) (tG G (.v i)) := by
  refine pg_imp (pg_name hX.nd hi hx hf) fun v σt H Q ⟨W, t, σ, σ', ex, e, ok, r, rs, p, k⟩ => ?_
  simp only [Tg.put] at p
  cases p
  exact k _ (upd_set i v) (rs.put r)
theorem tgs_n : PGs X [] (tGs G []) := by
  refine pgs_imp pgs_nil fun vs σt H Q ⟨W, ts, σ, σ', ex, e, ok, r, rs, p, k⟩ => ?_
  have hl := puts_len p
  have z : ts = [] := List.eq_nil_of_length_eq_zero hl
  subst z
  cases r
  simp only [Tg.puts] at p
  cases p
  exact ⟨rfl, k σt (Upd.refl _) (rs.imp fun i h => h.elim (fun z => z) (fun z => absurd z (by simp [Tg.sls])))⟩
theorem tgs_c {e : Expr} {es : List Expr} {g : Tg} {gs : List Tg} (h1 : PG X e (tG G g)) (h2 : PGs X es (tGs G gs)) (hs : (assignEach (e :: es) X.env).map (·.2) = assign e X.env :: (assignEach es X.env).map (·.2) := by rfl) : PGs X (e :: es) (tGs G (g :: gs)) := by
  refine pgs_imp (pgs_cons h1 h2 hs) fun vs σt H Q ⟨W, ts, σ, σ', ex, e, ok, r, rs, p, k⟩ => ?_
  cases ts with
  | nil => simp [Tg.puts] at p
  | cons t ts =>
    obtain ⟨v, vs, rfl, r1, r2⟩ := r
    simp only [Tg.puts] at p
    obtain ⟨σ1, p1, p2⟩ := Option.bind_eq_some_iff.mp p
    refine ⟨v, vs, rfl, W, t, σ, σ1, ex, e, ok, r1, rs, p1, fun σ2 u2 rs2 => ⟨W, ts, σ1, σ', _, e, ok, r2, rs2, p2, fun σ3 u3 rs3 => k σ3 (u2.trans u3) (rs3.imp fun i h => ?_)⟩⟩
    rcases h with h | h
    · exact .inl (.inl h)
    · rcases List.mem_append.mp h with h | h
      · exact .inl (.inr h)
      · exact .inr h
theorem tg_u {es : List Expr} {k : Nat} {gs : List Tg} (hX : Cn G X) (h : PGs X es (tGs G gs)) (hn : (assignEach es X.env).length = gs.length := by rfl) (hst : (assignEach es X.env).findIdx? (·.1) = none := by rfl) : PG X (.Tuple es k pos) (tG G (.u gs)) := by
  refine pg_imp (pg_tup hX.calm h hn hst) fun v σt H Q ⟨W, t, σ, σ', ex, e, ok, r, rs, p, kk⟩ => ?_
  cases t <;> simp only [Tg.put] at p <;> try contradiction
  obtain ⟨a, vs, rfl, f, r⟩ := r
  have hl := puts_len p
  subst e
  exact ⟨a, vs, rfl, hX.K ▸ f.sq, by rw [← r.length]; exact hl, W, _, σ, σ', ex, rfl, ok, r, rs, p, fun σ2 u2 rs2 => kk σ2 u2 rs2⟩
end

/-! ### what is walked -/
/-- J walks the trees xs, in every later world -/
def ItOk (G : Gx) (W : Wd) (xs : List T) (J : L2.It) : Prop := ∃ (Gd : Hp → Prop) (Y : Nat → Hp → V → Hp → Prop), Walk J xs.length Gd Y ∧ (∀ W', Ext W W' → Gd W'.H) ∧
  ∀ i H x H' W', Y i H x H' → W'.H = H → Ext W W' → W'.Ok G → ∃ t W'', xs[i]? = some t ∧ W''.H = H' ∧ W''.h = W'.h ∧ Ext W' W'' ∧ W''.Ok G ∧ RT G W'' t x
def tI (G : Gx) (Γ : Tw.Env) (E : XK) (it : Tw.It) : TI := fun σt H R => ∃ W σ, W.H = H ∧ W.Ok G ∧ Rs G W σ σt ∧ Post G (ItOk G) W (evI Γ it σ W.h) R E
section
variable {G : Gx} {W : Wd}
theorem itok_same {xs : List T} {vs : List V} {J : L2.It} {Gd : Hp → Prop} {Y : Nat → Hp → V → Hp → Prop} (w : Walk J xs.length Gd Y) (g : ∀ W', Ext W W' → Gd W'.H) (r : RTs G W xs vs) (y : ∀ i H x H', Y i H x H' → H' = H ∧ vs[i]? = some x) : ItOk G W xs J :=
  ⟨Gd, Y, w, g, fun i H x H' W' hy e ex ok => by
    obtain ⟨rfl, h⟩ := y i H x H' hy
    obtain ⟨t, h1, h2⟩ := r.get' h
    exact ⟨t, W', h1, e, rfl, .refl W', ok, RT.ext ex _ _ h2⟩⟩
theorem strItems (s : List Nat) : RTs G W (s.map fun c => T.str [c]) (s.map fun c => V.str ⟨#[c]⟩) := by
  induction s with
  | nil => rfl
  | cons c s ih => exact ⟨_, _, rfl, ⟨rfl, by show 1 ≤ sizeLine; decide⟩, ih⟩
/-- the source of a value that is walked -/
theorem src_of {P : Program} {w : World} {t : T} {x : V} {xs : List T} (r : RT G W t x) (e : itemsO t = some xs) : ∃ vs Gd, SrcV P w G.K x vs Gd ∧ RTs G W xs vs ∧ ∀ W', Ext W W' → Gd W'.H := by
  unfold itemsO at e
  split at e <;> try contradiction
  · cases e
    obtain ⟨rfl, _⟩ := r
    refine ⟨_, fun _ => True, fun u ru => ?_, strItems _, fun _ _ => trivial⟩
    obtain ⟨t, rfl⟩ := ru
    rename_i z _
    have q := src_str (P := P) (w := w) (K := G.K) (x := tx z) (t := t)
    exact ⟨_, _, q⟩
  · cases e
    obtain ⟨a, vs, rfl, f, r⟩ := r
    refine ⟨vs, fun H => SqT G.K H a vs, fun u ru => ?_, r, fun W' ex => (f.ext ex).sq⟩
    cases ru
    exact ⟨_, _, src_tup⟩
  · cases e
    obtain ⟨a, vs, rfl, f, r⟩ := r
    refine ⟨vs, fun H => SqL G.K H a vs, fun u ru => ?_, r, fun W' ex => (f.ext ex).sq⟩
    cases ru
    exact ⟨_, _, src_list⟩
/-- a new pair in a later world -/
theorem pairW {W' : Wd} {Tt : Addr} {x y : V} {t u : T} (ok : W'.Ok G) (hn : W'.H Tt = none) (r1 : RT G W' t x) (r2 : RT G W' u y) :
    Ext W' ⟨upd W'.H Tt (.tup [x, y]), W'.β, W'.h⟩ ∧ Wd.Ok G ⟨upd W'.H Tt (.tup [x, y]), W'.β, W'.h⟩ ∧ RT G ⟨upd W'.H Tt (.tup [x, y]), W'.β, W'.h⟩ (.tup [t, u]) (.ref Tt) := by
  have ex : Ext W' ⟨upd W'.H Tt (.tup [x, y]), W'.β, W'.h⟩ := .new hn
  exact ⟨ex, ok.new hn, Tt, [x, y], rfl, .inl ⟨.of upd_same, fun z => ok.notM hn z⟩, x, [y], rfl, RT.ext ex _ _ r1, y, [], rfl, RT.ext ex _ _ r2, rfl⟩
theorem enumT_get : ∀ {xs : List T} {n i : Nat} {t : T}, xs[i]? = some t → (enumT n xs)[i]? = some (.tup [.int ((n + i : Nat) : Int), t])
  | [], _, _, _, e => by simp at e
  | x :: xs, n, 0, t, e => by
    simp at e
    subst e
    rfl
  | x :: xs, n, i + 1, t, e => by
    have q := enumT_get (n := n + 1) (i := i) (t := t) (xs := xs) (by simpa using e)
    show (enumT (n + 1) xs)[i]? = _
    rw [q, show n + 1 + i = n + (i + 1) by omega]
theorem enumT_len : ∀ (xs : List T) (n : Nat), (enumT n xs).length = xs.length
  | [], _ => rfl
  | x :: xs, n => by show (enumT (n + 1) xs).length + 1 = _; rw [enumT_len xs (n + 1)]; rfl
theorem zipT_get : ∀ {xs ys : List T} {i : Nat} {t u : T}, xs[i]? = some t → ys[i]? = some u → (zipT xs ys)[i]? = some (.tup [t, u])
  | [], _, _, _, _, e, _ => by simp at e
  | _ :: _, [], _, _, _, _, e => by simp at e
  | x :: xs, y :: ys, 0, t, u, e, e' => by
    simp at e e'
    subst e e'
    rfl
  | x :: xs, y :: ys, i + 1, t, u, e, e' => zipT_get (xs := xs) (ys := ys) (i := i) (by simpa using e) (by simpa using e')
theorem zipT_len : ∀ (xs ys : List T), (zipT xs ys).length = min xs.length ys.length
  | [], ys => by simp [zipT]
  | _ :: _, [] => by simp [zipT]
  | x :: xs, y :: ys => by show (zipT xs ys).length + 1 = _; rw [zipT_len xs ys]; simp
theorem steps_get : ∀ {n i : Nat} {lo c : Int}, i < n → (steps lo c n)[i]? = some (.int (lo + (i : Int) * c))
  | 0, _, _, _, h => absurd h (Nat.not_lt_zero _)
  | n + 1, 0, lo, c, _ => by simp [steps]
  | n + 1, i + 1, lo, c, h => by
    show (steps (lo + c) c n)[i]? = _
    rw [steps_get (i := i) (by omega)]
    congr 2
    have : ((i + 1 : Nat) : Int) * c = (i : Int) * c + c := by rw [Int.natCast_add, Int.add_mul]; simp
    omega
theorem steps_len : ∀ (n : Nat) (lo c : Int), (steps lo c n).length = n
  | 0, _, _ => rfl
  | n + 1, lo, c => by show (steps (lo + c) c n).length + 1 = _; rw [steps_len]
theorem itok_steps {J : L2.It} {n : Nat} {lo c : Int} (w : Walk J n (fun _ => True) (YFn fun i => .int (lo + (i : Nat) * c))) : ItOk G W (steps lo c n) J :=
  ⟨fun _ => True, fun i H x H' => i < n ∧ YFn (fun i => .int (lo + (i : Nat) * c)) i H x H', by
      rw [steps_len]
      exact ⟨w.goes, w.stops, fun i H x H' hi g y => ⟨hi, w.yields i H x H' hi g y⟩⟩, fun _ _ => trivial, fun i H x H' W' ⟨hi, e1, e2⟩ e ex ok => by
    subst e1 e2
    exact ⟨_, W', steps_get hi, e, rfl, .refl W', ok, rfl⟩⟩
end
section
variable {G : Gx} {Γ : Tw.Env} {E : XK} {X : Cx} {tg a b c : Expr} {A B C : Ex} {As : List Ex} {pos p tpos : Pos} {elts : List Expr} {kk : Nat}
abbrev YJ (Y : Nat → V → V → Prop) : Nat → Hp → V → Hp → Prop := fun i H v H' => ∃ T x y, v = .ref T ∧ H T = none ∧ H' = upd H T (.tup [x, y]) ∧ Y i x y
theorem ofO_here {α β : Type} {W : Wd} {rel : Wd → α → β → Prop} {o : Option α} {Q : β → Hp → Prop} {b : β} (ok : W.Ok G) (p : Post G rel W (ofO o W.h) Q E) (h : ∀ a, o = some a → rel W a b) : Q b W.H := by
  obtain ⟨a, e, p⟩ := p.of_ofO
  exact Post.here ok p (h a e)
theorem is_str {z : List Nat} {W : Wd} : ItOk G W (z.map fun c => T.str [c]) (Its (tx z)) := by
  refine itok_same (vs := z.map fun c => V.str ⟨#[c]⟩) (Gd := fun _ => True) (Y := fun i H v H' => H' = H ∧ ∃ c, (tx z).cps[i]? = some c ∧ v = .str ⟨#[c]⟩) ?_ (fun _ _ => trivial) (strItems z) fun i H x H' ⟨e, c, h1, h2⟩ => ⟨e, ?_⟩
  · have e : (z.map fun c => T.str [c]).length = (tx z).cps.size := by simp
    rw [e]
    exact walk_str
  · rw [List.getElem?_map]
    have e' : z[i]? = some c := by simpa using h1
    rw [e', h2]
    rfl
theorem is_list {ad : Addr} {l : List T} {vs : List V} {W : Wd} (f : FzL G.K W ad vs) (r : RTs G W l vs) : ItOk G W l (Itl G.K ad) :=
  itok_same (Gd := fun H => SqL G.K H ad vs) (Y := YAt vs) (by rw [r.length]; exact walk_list) (fun W' ex => (f.ext ex).sq) r fun i H x H' y => y
theorem is_tup {ad : Addr} {l : List T} {vs : List V} {W : Wd} (f : FzT G.K W ad vs) (r : RTs G W l vs) : ItOk G W l (Itt G.K ad) :=
  itok_same (Gd := fun H => SqT G.K H ad vs) (Y := YAt vs) (by rw [r.length]; exact walk_tup) (fun W' ex => (f.ext ex).sq) r fun i H x H' y => y
/-- a text, a tuple, a list: its kind is told -/
inductive Kd | s | t | l
def kdOk : Kd → T → Bool
  | .s, .str _ => true
  | .t, .tup _ => true
  | .l, .lst _ => true
  | _, _ => false
theorem ti_e (hX : Cn G X) (ha : PE X a (tE G Γ E A)) : PI X tg a (tI G Γ E (.e A)) := by
  refine ⟨fun pins s σt H R I ⟨W, σ, e, ok, rs, p⟩ => ?_⟩
  subst e
  unfold evI at p
  refine thn (ha.run pins s σt W.H _ I (goE (Q := fun v H1 => ∃ W1 x, W1.H = H1 ∧ W1.Ok G ∧ RT G W1 x v ∧ Post G (ItOk G) W1 (ofO (itemsO x) W1.h) R E) ok rs p fun W1 x v ex1 ok1 rs1 r1 p1 => ⟨W1, x, rfl, ok1, r1, p1⟩)) fun u s1 ⟨v, H1, I1, ru, W1, x, e1, ok1, r1, p1⟩ => ?_
  subst e1
  obtain ⟨xs, e, p1⟩ := p1.of_ofO
  -- one of three rules, by the value that has come
  have at_ : ∀ {t : TE} {wi : TI} (_ : ∀ σ0 H0 R0, wi σ0 H0 R0 = wi σ0 H0 R0), True := fun _ => trivial
  unfold itemsO at e
  split at e <;> try contradiction
  · cases e
    obtain ⟨rfl, _⟩ := r1
    obtain ⟨t, rfl⟩ := ru
    have q : R (Its (tx _)) W1.H := Post.here ok1 p1 is_str
    cases hz : (tx ‹List Nat›).cps.all (· < 128)
    · exact wpAny_pyIter_wide hz (pi_one (tk := s1.toks) I1 _ (turn_str _ _ t "str_iterator" (.inr rfl)) ⟨_, Heap.get?_push_size _ rfl, rfl, rfl⟩ q)
    · exact wpAny_pyIter_ascii hz (pi_one (tk := s1.toks) I1 _ (turn_str _ _ t "str_ascii_iterator" (.inl rfl)) ⟨_, Heap.get?_push_size _ rfl, rfl, rfl⟩ q)
  · cases e
    obtain ⟨ad, vs, rfl, f, r⟩ := r1
    cases ru
    have q : R (Itt X.K ad) W1.H := by rw [hX.K]; exact Post.here ok1 p1 (is_tup f r)
    obtain ⟨its, rv, pt, hz⟩ := I1.tuple (hX.K ▸ f.sq)
    exact wpAny_pyIter_tuple (show s1.heap.IsTuple ad its.toArray from pt) (pi_one (tk := s1.toks) I1 _ (turn_tuple ad _) ⟨_, Heap.get?_push_size _ rfl, rfl, rfl⟩ q)
  · cases e
    obtain ⟨ad, vs, rfl, f, r⟩ := r1
    cases ru
    have q : R (Itl X.K ad) W1.H := by rw [hX.K]; exact Post.here ok1 p1 (is_list f r)
    obtain ⟨its, rv, pt, hz⟩ := I1.list (hX.K ▸ f.sq)
    exact wpAny_pyIter_list pt.isList (pi_one (tk := s1.toks) I1 _ (turn_list ad _) ⟨_, Heap.get?_push_size _ rfl, rfl, rfl⟩ q)
theorem lim62 {j : Int} (h : -(lim : Int) ≤ j) (k : j ≤ (lim : Int)) : -(2 ^ 62) ≤ j ∧ j < 2 ^ 62 := by
  have : (lim : Int) = 16000000 := rfl
  omega
theorem ti_r1 (hg : Gl X "range") (hm : X.mg "range" = none) (ha : PA X [a] (tA G Γ E [A])) (hs : starEach [a] X.env = [(false, eval a X.env)] := by rfl) : PI X tg (.Call (.Name "range" p) [a] [] pos) (tI G Γ E (.range [A])) := by
  refine pi_imp (pi_range1 hg hm ha hs) fun σt H R ⟨W, σ, e, ok, rs, p⟩ => ?_
  subst e
  unfold evI at p
  refine goAl ok rs p fun W1 ts vs ex1 ok1 rs1 r1 hl p1 => ?_
  obtain ⟨xs, e, p1⟩ := p1.of_ofO
  obtain ⟨t, rfl⟩ : ∃ t, ts = [t] := by
    match ts, hl with
    | [t], _ => exact ⟨t, rfl⟩
  obtain ⟨v, rfl, q1⟩ := rts1 r1
  cases t <;> first | contradiction | skip
  unfold rngO at e
  simp only at e
  split at e <;> try contradiction
  rename_i j hz
  cases e
  cases q1
  refine ⟨j, rfl, (lim62 hz.1 hz.2).1, (lim62 hz.1 hz.2).2, Post.here ok1 p1 (itok_steps ?_)⟩
  have e : (fun (i : Nat) => V.int (0 + (i : Nat) * 1)) = fun (i : Nat) => V.int (0 + (i : Int)) := by funext i; simp
  rw [e]
  exact walk_range
theorem ti_r2 (hg : Gl X "range") (hm : X.mg "range" = none) (ha : PA X [a, b] (tA G Γ E [A, B])) (hs : starEach [a, b] X.env = [(false, eval a X.env), (false, eval b X.env)] := by rfl) (hs2 : starEach [b] X.env = [(false, eval b X.env)] := by rfl) :
    PI X tg (.Call (.Name "range" p) [a, b] [] pos) (tI G Γ E (.range [A, B])) := by
  refine pi_imp (pi_range2 hg hm ha hs hs2) fun σt H R ⟨W, σ, e, ok, rs, p⟩ => ?_
  subst e
  unfold evI at p
  refine goAl ok rs p fun W1 ts vs ex1 ok1 rs1 r1 hl p1 => ?_
  obtain ⟨xs, e, p1⟩ := p1.of_ofO
  obtain ⟨t, u, rfl⟩ : ∃ t u, ts = [t, u] := by
    match ts, hl with
    | [t, u], _ => exact ⟨t, u, rfl⟩
  obtain ⟨v, w, rfl, q1, q2⟩ := rts2 r1
  cases t <;> first | contradiction | skip
  cases u <;> first | contradiction | skip
  unfold rngO at e
  simp only at e
  split at e <;> try contradiction
  rename_i i j hz
  cases e
  cases q1
  cases q2
  refine ⟨i, j, rfl, ⟨(lim62 hz.1 hz.2.1).1, (lim62 hz.1 hz.2.1).2, (lim62 hz.2.2.1 hz.2.2.2).1, (lim62 hz.2.2.1 hz.2.2.2).2⟩, Post.here ok1 p1 (itok_steps ?_)⟩
  have e : (fun (k : Nat) => V.int (i + (k : Nat) * 1)) = fun (k : Nat) => V.int (i + (k : Int)) := by funext k; simp
  rw [e]
  exact walk_range
theorem ti_r3 (hg : Gl X "range") (hm : X.mg "range" = none) (ha : PA X [a, b, c] (tA G Γ E [A, B, C])) (hs : starEach [a, b, c] X.env = (false, eval a X.env) :: starEach [b, c] X.env := by rfl) (hpl : (backTo pos (starEach [b, c] X.env)).any (·.1) = false := by rfl) :
    PI X tg (.Call (.Name "range" p) [a, b, c] [] pos) (tI G Γ E (.range [A, B, C])) := by
  refine pi_imp (pi_range3 hg hm ha hs hpl) fun σt H R ⟨W, σ, e, ok, rs, p⟩ => ?_
  subst e
  unfold evI at p
  refine goAl ok rs p fun W1 ts vs ex1 ok1 rs1 r1 hl p1 => ?_
  obtain ⟨xs, e, p1⟩ := p1.of_ofO
  obtain ⟨t, u, y, rfl⟩ : ∃ t u y, ts = [t, u, y] := by
    match ts, hl with
    | [t, u, y], _ => exact ⟨t, u, y, rfl⟩
  obtain ⟨v, w, rfl, q1, qr⟩ := r1
  obtain ⟨v2, w2, rfl, q2, q3⟩ := rts2 qr
  cases t <;> first | contradiction | skip
  cases u <;> first | contradiction | skip
  cases y <;> first | contradiction | skip
  unfold rngO at e
  simp only at e
  split at e <;> try contradiction
  rename_i i j k hz
  obtain ⟨h1, h2, h3, h4, rfl⟩ := hz
  cases e
  cases q1
  cases q2
  cases q3
  exact ⟨i, j, -1, _, rfl, .neg (lim62 h1 h2).1 (lim62 h1 h2).2 (lim62 h3 h4).1 (lim62 h3 h4).2, Post.here ok1 p1 (itok_steps walk_rangeC)⟩
theorem ti_enum (hX : Cn G X) (hg : Gl X "enumerate") (hm : X.mg "enumerate" = none) (ha : PE X a (tE G Γ E A)) (hs : starEach [a] X.env = [(false, eval a X.env)] := by rfl) (hs1 : starEach [a] X.env = (false, eval a X.env) :: starEach [] X.env := by rfl) :
    PI X (.Tuple elts kk tpos) (.Call (.Name "enumerate" p) [a] [] pos) (tI G Γ E (.enum A)) := by
  refine pi_imp (pi_enumS hg hm (pa_cons ha pa_nil hs1) hs) fun σt H R ⟨W, σ, e, ok, rs, p⟩ => ?_
  subst e
  unfold evI at p
  refine goE ok rs p fun W1 x v ex1 ok1 rs1 r1 p1 => ?_
  obtain ⟨xs, e, p2⟩ := ofOmap p1
  obtain ⟨vs, Gd, S, r, g⟩ := src_of (P := X.prog) (w := X.w) r1 e
  refine ⟨v, vs, Gd, rfl, hX.K ▸ S, g W1 (.refl W1), Post.here (rel := ItOk G) (a := enumT 0 xs) ok1 p2 ⟨Gd, YJ fun i x y => x = .int (i : Nat) ∧ vs[i]? = some y, ?_, g, ?_⟩⟩
  · rw [enumT_len, r.length]
    exact walk_JP
  · rintro i H x H' W' ⟨Tt, y, z, rfl, hn, rfl, rfl, hz⟩ e1 ex ok'
    subst e1
    obtain ⟨t, ht, rt⟩ := r.get' hz
    obtain ⟨q1, q2, q3⟩ := pairW (t := .int i) (x := .int (i : Nat)) ok' hn rfl (RT.ext ex _ _ rt)
    exact ⟨_, ⟨upd W'.H Tt (.tup [.int (i : Nat), z]), W'.β, W'.h⟩, by simpa using enumT_get (n := 0) ht, rfl, rfl, q1, q2, q3⟩
theorem ti_zip (hX : Cn G X) (hg : Gl X "zip") (hm : X.mg "zip" = none) (ha : PE X a (tE G Γ E A)) (hb : PE X b (tE G Γ E B)) (hs : starEach [a, b] X.env = (false, eval a X.env) :: starEach [b] X.env := by rfl) (hs1 : starEach [b] X.env = (false, eval b X.env) :: starEach [] X.env := by rfl) (hpl : (backTo pos (starEach [b] X.env)).any (·.1) = false := by rfl) :
    PI X (.Tuple elts kk tpos) (.Call (.Name "zip" p) [a, b] [] pos) (tI G Γ E (.zip A B)) := by
  refine pi_imp (pi_zipS hg hm (pa_cons ha (pa_cons hb pa_nil hs1) hs) hs hpl) fun σt H R ⟨W, σ, e, ok, rs, p⟩ => ?_
  subst e
  unfold evI at p
  refine goE ok rs p fun W1 x v ex1 ok1 rs1 r1 p1 => goE ok1 rs1 p1 fun W2 y w ex2 ok2 rs2 r2 p2 => ?_
  split at p2
  · rename_i xs ys e1 e2
    obtain ⟨vs, Gd, S, r, g⟩ := src_of (P := X.prog) (w := X.w) (RT.ext ex2 _ _ r1) e1
    obtain ⟨ws, Gd', S', r', g'⟩ := src_of (P := X.prog) (w := X.w) r2 e2
    refine ⟨v, vs, Gd, w, ws, Gd', rfl, hX.K ▸ S, g W2 (.refl W2), hX.K ▸ S', g' W2 (.refl W2), Post.here (rel := ItOk G) (a := zipT xs ys) ok2 p2 ⟨fun H => Gd H ∧ Gd' H, YJ fun i x y => vs[i]? = some x ∧ ws[i]? = some y, ?_, fun W' ex => ⟨g W' ex, g' W' ex⟩, ?_⟩⟩
    · rw [zipT_len, r.length, r'.length]
      exact walk_JP
    · rintro i H x H' W' ⟨Tt, y, z, rfl, hn, rfl, hy, hz⟩ e1 ex ok'
      subst e1
      obtain ⟨t, ht, rt⟩ := r.get' hy
      obtain ⟨u, hu, ru⟩ := r'.get' hz
      obtain ⟨q1, q2, q3⟩ := pairW ok' hn (RT.ext ex _ _ rt) (RT.ext ex _ _ ru)
      exact ⟨_, ⟨upd W'.H Tt (.tup [y, z]), W'.β, W'.h⟩, zipT_get ht hu, rfl, rfl, q1, q2, q3⟩
  · exact False.elim p2

/-! ### comprehensions -/
theorem pts_imp {X : Cx} {cs : List Expr} {t t' : TT} (h : PTs X cs t) (k : ∀ σ H Q, t' σ H Q → t σ H Q) : PTs X cs t' := ⟨fun pins s σ H Q I q => h.run pins s σ H Q I (k σ H Q q)⟩
theorem tts_n : PTs X [] (tBs G Γ E []) := by
  refine pts_imp pts_nil fun σt H Q ⟨W, σ, e, ok, rs, p⟩ => ?_
  subst e
  exact Post.here (rel := fun _ (a b : Bool) => a = b) (a := true) ok p rfl
theorem tts_1 (h : PT X c (tB G Γ E C)) : PTs X [c] (tBs G Γ E [C]) := by
  refine pts_imp (pts_one h) fun σt H Q ⟨W, σ, e, ok, rs, p⟩ => ?_
  subst e
  have e : evBs Γ [C] σ W.h = (evB Γ C σ W.h).bind fun b h => if b then .ok true h else .ok false h := by simp only [evBs]
  rw [e] at p
  refine goB ok rs p fun W1 b ex1 ok1 rs1 p1 => ?_
  cases b with
  | true => exact Post.here (rel := fun _ (a b : Bool) => a = b) (a := true) ok1 p1 rfl
  | false => exact Post.here (rel := fun _ (a b : Bool) => a = b) (a := false) ok1 p1 rfl
/-- the reading of a comprehension, from the evaluator's answer -/
theorem lc_go {m : Bool} {g : Tg} {it : Tw.It} {cs : List Ex} {e : Ex} {own : List Nat} (hown : ∀ i, i ∈ g.sl ↔ i ∈ own) {σt : L2.St} {H : Hp} {Q : VK} (h : tE G Γ E (.lc m g it cs e) σt H Q) :
    tLc (tI G Γ E it) (tG G g) (tBs G Γ E0 cs) (tE G Γ E0 e) own σt H Q := by
  obtain ⟨W, σ, e1, ok, rs, p⟩ := h
  subst e1
  unfold evE at p
  refine ⟨W, σ, rfl, ok, rs, p.seq.mono fun J H1 ⟨W1, xs, e1, ex1, ok1, it1, p1⟩ => ?_⟩
  subst e1
  intro D hD
  obtain ⟨Gd, Y, w, gd, yl⟩ := it1
  -- the list at D: a new reference
  let W2 : Wd := ⟨L2.upd W1.H D (.lst []), W1.β ++ [D], W1.h ++ [some (.lst [])]⟩
  have ex2 : Ext W1 W2 := Ext.newM ok1 hD
  have ok2 : W2.Ok G := ok1.newM (mo := .lst []) hD ⟨[], upd_same, rfl⟩
  have d2 : W2.β[W1.h.length]? = some D := by show (W1.β ++ [D])[W1.h.length]? = _; rw [← ok1.len]; simp
  have rs1 : Rs G W1 σ σt := rs.ext ex1
  generalize hgo : lcGo g (fun σ h => evBs Γ cs σ h) (fun σ h => evE Γ e σ h) = go at p1
  refine lc_it w (fun i H' => ∃ W', W'.H = H' ∧ Ext W2 W' ∧ W'.Ok G ∧ PostE G W' ((lcLoop go σ W1.h.length (xs.drop i) W'.h).bind fun _ h' => lcEnd m W1.h.length h') Q E)
    ⟨W2, rfl, .refl W2, ok2, p1.later ex2⟩ (fun i H' hi ⟨W', eh, ex, _⟩ => eh ▸ gd W' (ex2.trans ex)) ?_ ?_
  · rintro i x H' H'' hi ⟨W', rfl, ex, ok', q⟩ hy
    obtain ⟨t, W3, ht, rfl, e3, ex3, ok3, r3⟩ := yl i W'.H x H'' W' hy rfl (ex2.trans ex) ok'
    have hd : xs.drop i = t :: xs.drop (i + 1) := by
      rw [List.drop_eq_getElem_cons hi]
      congr 1
      exact (List.getElem?_eq_some_iff.mp ht).2
    rw [hd] at q
    have q := Post.later ex3 q
    rw [← e3] at q
    unfold lcLoop at q
    have hgt : go t σ W3.h = (match g.put t σ with
      | none => .bad
      | some σ => (evBs Γ cs σ W3.h).bind fun b h => if b then (evE Γ e σ h).bind fun y h => .ok (some y) h else .ok none h) := by rw [← hgo]; rfl
    rw [hgt] at q
    have rs3 : Rx G W3 (fun i => i ∉ own) σ (wipe σt own) := by
      have r := rs1.ext ((ex2.trans ex).trans ex3)
      refine ⟨by rw [wipe_length]; exact r.1, fun j u hj e => ?_⟩
      rw [wipe_out hj]
      exact r.2 j u trivial e
    cases hp : g.put t σ with
    | none => rw [hp] at q; exact False.elim q
    | some σ' =>
      rw [hp] at q
      refine ⟨W3, t, σ, σ', _, rfl, ok3, r3, rs3, hp, fun σt' hu rs4 => ⟨?_, ?_⟩⟩
      · rw [wipe_upd hu fun i hi => (hown i).mp hi]
        exact wipe_upd (vs := own) (s := own) (a := σt) (b := wipe σt own) ⟨wipe_length _ _, fun i hi => wipe_out hi⟩ fun i hi => hi
      · have rs5 : Rs G W3 σ' σt' := rs4.imp fun i _ => by
          by_cases hi : i ∈ own
          · exact .inr ((hown i).mpr hi)
          · exact .inl hi
        simp only at q
        -- the tests
        cases hb : evBs Γ cs σ' W3.h with
        | bad => rw [hb] at q; exact False.elim q
        | exc _ _ _ => rw [hb] at q; exact False.elim q
        | ok b h4 =>
          rw [hb] at q
          refine ⟨W3, σ', rfl, ok3, rs5, ?_⟩
          rw [hb]
          intro W4 b' e4 ex4 ok4 eb
          subst eb e4
          rw [R_ok] at q
          have in4 : Ext W2 W4 := (ex.trans ex3).trans ex4
          cases b with
          | false =>
            rw [if_neg Bool.false_ne_true] at q ⊢
            exact ⟨W4, rfl, in4, ok4, Post.later ex4 q⟩
          | true =>
            rw [if_pos rfl] at q ⊢
            cases hv : evE Γ e σ' W4.h with
            | bad => rw [hv] at q; exact False.elim q
            | exc _ _ _ => rw [hv] at q; exact False.elim q
            | ok y h5 =>
              rw [hv] at q
              refine ⟨W4, σ', rfl, ok4, rs5.ext ex4, ?_⟩
              rw [hv]
              intro W5 z e5 ex5 ok5 rz
              subst e5
              rw [R_ok] at q
              have in5 : Ext W2 W5 := in4.trans ex5
              have dd : W5.β[W1.h.length]? = some D := in5.bet _ _ d2
              have bad : ∀ {o : Option MO}, W5.h[W1.h.length]? = some o → (∀ l, o ≠ some (.lst l)) → False := fun {o} e n => by
                simp only [e] at q
                cases o with
                | none => exact q
                | some mo =>
                  cases mo with
                  | lst l => exact n l rfl
                  | dct _ _ => exact q
                  | ins _ _ _ => exact q
              cases hl' : W5.h[W1.h.length]? with
              | none =>
                simp only [hl'] at q
                exact False.elim q
              | some o =>
                cases o with
                | none => exact (bad hl' fun _ z => nomatch z).elim
                | some mo =>
                  cases mo with
                  | dct _ _ => exact (bad hl' fun _ z => nomatch z).elim
                  | ins _ _ _ => exact (bad hl' fun _ z => nomatch z).elim
                  | lst l' =>
                    simp only [hl'] at q
                    by_cases hz : l'.length < lim
                    · rw [if_pos hz] at q
                      obtain ⟨acc, hacc, ra⟩ := ok5.cont _ _ D hl' dd
                      have ex6 : Ext W5 ⟨L2.upd W5.H D (.lst (acc ++ [z])), W5.β, W5.h.set W1.h.length (some (.lst (l' ++ [y])))⟩ := Ext.set hl' dd
                      exact ⟨acc, hacc, by rw [← ra.length]; exact lim_line' hz, _, rfl, in5.trans ex6, ok5.set hl' dd ⟨_, upd_same, RTs.ext ex6 _ _ (ra.append (.one rz))⟩, Post.later ((ex4.trans ex5).trans ex6) q⟩
                    · rw [if_neg hz] at q
                      exact False.elim q
  · rintro H' ⟨W', rfl, ex, ok', q⟩
    rw [List.drop_length] at q
    have q : PostE G W' (lcEnd m W1.h.length W'.h) Q E := q
    have dd : W'.β[W1.h.length]? = some D := ex.bet _ _ d2
    unfold lcEnd at q
    cases m with
    | true => exact Post.here (rel := RT G) (a := .ref _) ok' q ⟨D, dd, rfl⟩
    | false =>
      rw [if_neg Bool.false_ne_true] at q
      exact frz_post (x := .ref W1.h.length) ok' ⟨D, dd, rfl⟩ q
end
end Tw
end
/-! part Tw2i -/
section
set_option Elab.async false
set_option linter.all false
set_option maxRecDepth 100000
/-! Tw2i: comprehensions as expressions, statements. -/
namespace Tw
open PySem PySem.Spec PyProof.Rows L2

theorem Cn.blk {G : Gx} {X : Cx} (h : Cn G X) {s : Shared} {H : Hp} {scope : Scope} {env : PySem.Env} {fp : List Addr} : Cn G (X.blk s H scope env fp) := ⟨h.K, h.nd, h.calm, h.un⟩
theorem Cn.wish {G : Gx} {X : Cx} (h : Cn G X) {xe : Value → Shared → Prop} : Cn G (X.wish xe) := ⟨h.K, h.nd, h.calm, h.un⟩

/-- behind a statement -/
inductive FlV where
  | nx (σ : L2.St) | rt (v : V) | bk (σ : L2.St) | ct (σ : L2.St)
def RF (G : Gx) (W : Wd) : Fl → FlV → Prop
  | .next σ, .nx σt => Rs G W σ σt
  | .ret t, .rt v => RT G W t v
  | .brk σ, .bk σt => Rs G W σ σt
  | .cont σ, .ct σt => Rs G W σ σt
  | _, _ => False
def dQ (D : Ends) : FlV → Hp → Prop
  | .nx σ, H => D.nx σ H
  | .rt v, H => D.rt v H
  | .bk σ, H => D.bk σ H
  | .ct σ, H => D.ct σ H
abbrev PostS (G : Gx) (W : Wd) (r : R Fl) (D : Ends) (E : XK) : Prop := Post G (RF G) W r (dQ D) E
def tS (G : Gx) (Γ : Tw.Env) (E : XK) (s : Tw.St) : TS := fun D σt H => ∃ W σ, W.H = H ∧ W.Ok G ∧ Rs G W σ σt ∧ PostS G W (evS Γ s σ W.h) D E
def tSs (G : Gx) (Γ : Tw.Env) (E : XK) (ss : List Tw.St) : TS := fun D σt H => ∃ W σ, W.H = H ∧ W.Ok G ∧ Rs G W σ σt ∧ PostS G W (evSs Γ ss σ W.h) D E
section
variable {G : Gx} {W : Wd} {D : Ends} {E : XK} {σ : Sl} {σt : L2.St}
theorem postNx (ok : W.Ok G) (p : PostS G W (.ok (.next σ) W.h) D E) (r : Rs G W σ σt) : D.nx σt W.H := Post.here (rel := RF G) (b := .nx σt) ok p r
theorem postRt {t : T} {v : V} (ok : W.Ok G) (p : PostS G W (.ok (.ret t) W.h) D E) (r : RT G W t v) : D.rt v W.H := Post.here (rel := RF G) (b := .rt v) ok p r
theorem postBk (ok : W.Ok G) (p : PostS G W (.ok (.brk σ) W.h) D E) (r : Rs G W σ σt) : D.bk σt W.H := Post.here (rel := RF G) (b := .bk σt) ok p r
theorem postCt (ok : W.Ok G) (p : PostS G W (.ok (.cont σ) W.h) D E) (r : Rs G W σ σt) : D.ct σt W.H := Post.here (rel := RF G) (b := .ct σt) ok p r
end
section
variable {G : Gx} {Γ : Tw.Env} {E : XK} {X : Cx} {a b c tg iter elt : Expr} {A B C : Ex} {ifs : List Expr} {cs : List Ex} {pos p spos : Pos} {scope : Scope} {own : List (PySem.Str × Nat)} {g : Tg} {it : Tw.It} {ss rest : List Stmt} {Ss : List Tw.St} {st : Stmt} {S : Tw.St}
theorem te_lc {m : Bool} (hX : Cn G X) (hown : g.sl = own.map (·.2)) (hi : PI X tg iter (tI G Γ E it)) (ok : BlkOk X.N X.env.scope scope own)
    (hg : ∀ (s : Shared) (H : Hp) (C : Addr) (cl : List (PySem.Str × Addr)) (fp : List Addr), PG (X.blk s H scope (compEnvC scope cl C X.env) fp) tg (tG G g))
    (ht : ∀ (s : Shared) (H : Hp) (C : Addr) (cl : List (PySem.Str × Addr)) (fp : List Addr), PTs (X.blk s H scope (compEnvC scope cl C X.env) fp) ifs (tBs G Γ E0 cs))
    (he : ∀ (s : Shared) (H : Hp) (C : Addr) (cl : List (PySem.Str × Addr)) (fp : List Addr), PE (X.blk s H scope (compEnvC scope cl C X.env) fp) elt (tE G Γ E0 A)) (hs : ∀ x, foldedSetIterable iter X.env x = pure x := by intro _; rfl) :
    PE X (.ListComp elt [⟨tg, iter, ifs, 0⟩] scope pos) (tE G Γ E (.lc m g it cs A)) :=
  pe_imp (pe_lc hX.calm hX.nd hi ok hg ht he hs) fun σt H Q h => lc_go (by intro i; rw [hown]) h
/-- statements -/
theorem ss_n : PSs X [] (tSs G Γ E []) := by
  refine pss_imp pss_nil fun D σt H ⟨W, σ, e, ok, rs, p⟩ => ?_
  subst e
  exact postNx ok (show PostS G W (.ok (.next σ) W.h) D E by unfold evSs at p; exact p) rs
theorem ss_c (h1 : PS X st (tS G Γ E S)) (h2 : PSs X rest (tSs G Γ E Ss)) : PSs X (st :: rest) (tSs G Γ E (S :: Ss)) := by
  refine pss_imp (pss_cons h1 h2) fun D σt H ⟨W, σ, e, ok, rs, p⟩ => ?_
  subst e
  unfold evSs at p
  refine ⟨W, σ, rfl, ok, rs, p.seq.mono fun b H1 ⟨W1, fl, e1, ex, ok1, rf, p1⟩ => ?_⟩
  subst e1
  cases b <;> cases fl <;> try exact False.elim rf
  · exact ⟨W1, _, rfl, ok1, rf, p1⟩
  · exact postRt (D := D) ok1 p1 rf
  · exact postBk (D := D) ok1 p1 rf
  · exact postCt (D := D) ok1 p1 rf
theorem ss_doc {x : PySem.Str} {j p2} (h2 : PSs X rest (tSs G Γ E Ss)) : PSs X (.Expr (.Constant (.str x) j pos) p2 :: rest) (tSs G Γ E Ss) :=
  pss_imp (pss_cons ps_doc h2) fun D σt H h => h
theorem s_ex (h : PE X a (tE G Γ E A)) (hs : swapsWith a none pos.line X.env = pure false := by rfl) : PS X (.Expr a pos) (tS G Γ E (.ex A)) := by
  refine ps_imp (ps_expr h hs) fun D σt H ⟨W, σ, e, ok, rs, p⟩ => ?_
  subst e
  unfold evS at p
  exact goE ok rs p fun W1 x v ex1 ok1 rs1 r1 p1 => postNx ok1 p1 rs1
theorem s_ret (h : PE X a (tE G Γ E A)) : PS X (.Return (some a) pos) (tS G Γ E (.ret A)) := by
  refine ps_imp (ps_ret h) fun D σt H ⟨W, σ, e, ok, rs, p⟩ => ?_
  subst e
  unfold evS at p
  exact goE ok rs p fun W1 x v ex1 ok1 rs1 r1 p1 => postRt ok1 p1 r1
theorem s_asg (h : PE X a (tE G Γ E A)) (hg : PG X tg (tG G g)) (hs : swapsWithSole [tg] a pos.line X.env = pure false := by rfl) (hw : swappedStores [tg] a X.env = pure none := by rfl)
    (h1 : (assignEach [tg] X.env).map (·.2) = [assign tg X.env] := by rfl) : PS X (.Assign [tg] a pos) (tS G Γ E (.asg g A)) := by
  refine ps_imp (ps_asg h hg hs hw h1) fun D σt H ⟨W, σ, e, ok, rs, p⟩ => ?_
  subst e
  unfold evS at p
  refine goE ok rs p fun W1 x v ex1 ok1 rs1 r1 p1 => ?_
  obtain ⟨σ', e, p2⟩ := ofOmap p1
  exact ⟨W1, x, σ, σ', _, rfl, ok1, r1, rs1, e, fun σt' _ rs2 => postNx ok1 p2 (rs2.imp fun _ _ => .inl trivial)⟩
theorem s_set {i : Nat} {x : PySem.Str} {p2 : Pos} (hX : Cn G X) (hi : X.N[i]? = some x) (hx : Loc X.env.scope x) (h : PE X a (tE G Γ E A)) (hs : swapsWith a (some (.Name x p2)) pos.line X.env = pure false := by rfl)
    (hf : X.fn x = true ∨ X.env.scope.names.lookup x = some .local := by first | exact .inl rfl | exact .inr rfl | assumption) : PS X (.Assign [.Name x p2] a pos) (tS G Γ E (.asg (.v i) A)) := by
  refine ps_imp (ps_set hX.nd hi hx h hs hf) fun D σt H ⟨W, σ, e, ok, rs, p⟩ => ?_
  subst e
  unfold evS at p
  refine goE ok rs p fun W1 x v ex1 ok1 rs1 r1 p1 => ?_
  obtain ⟨σ', e, p2⟩ := ofOmap p1
  simp only [Tg.put] at e
  cases e
  exact postNx ok1 p2 ((rs1.put r1).imp fun _ _ => .inl trivial)
theorem s_setLc {m : Bool} {i : Nat} {y : PySem.Str} {py : Pos} (hX : Cn G X) (hy : X.N[i]? = some y) (hyl : X.env.scope.names.lookup y = some .local)
    (hsw : swapsWith (.ListComp elt [⟨tg, iter, ifs, 0⟩] scope pos) (some (.Name y py)) spos.line X.env = pure true) (hown : g.sl = own.map (·.2)) (hi : PI X tg iter (tI G Γ E it)) (ok : BlkOk X.N X.env.scope scope own)
    (hg : ∀ (s : Shared) (H : Hp) (C : Addr) (cl : List (PySem.Str × Addr)) (fp : List Addr), PG (X.blk s H scope (compEnvC scope cl C X.env) fp) tg (tG G g))
    (ht : ∀ (s : Shared) (H : Hp) (C : Addr) (cl : List (PySem.Str × Addr)) (fp : List Addr), PTs (X.blk s H scope (compEnvC scope cl C X.env) fp) ifs (tBs G Γ E0 cs))
    (he : ∀ (s : Shared) (H : Hp) (C : Addr) (cl : List (PySem.Str × Addr)) (fp : List Addr), PE (X.blk s H scope (compEnvC scope cl C X.env) fp) elt (tE G Γ E0 A)) (hs : ∀ x, foldedSetIterable iter X.env x = pure x := by intro _; rfl) :
    PS X (.Assign [.Name y py] (.ListComp elt [⟨tg, iter, ifs, 0⟩] scope pos) spos) (tS G Γ E (.asg (.v i) (.lc m g it cs A))) := by
  refine ps_imp (ps_setLc hX.calm hX.nd hy hyl hsw hi ok hg ht he hs) fun D σt H ⟨W, σ, e, ok, rs, p⟩ => ?_
  subst e
  have p' : PostS G W ((evE Γ (.lc m g it cs A) σ W.h).bind fun t h => ofO ((Tg.put (.v i) t σ).map Fl.next) h) D E := by
    have e : evS Γ (.asg (.v i) (.lc m g it cs A)) σ W.h = (evE Γ (.lc m g it cs A) σ W.h).bind fun t h => ofO ((Tg.put (.v i) t σ).map Fl.next) h := by rw [evS]
    rw [e] at p
    exact p
  refine lc_go (m := m) (by intro i; rw [hown]) (goE ok rs p' fun W1 x v ex1 ok1 rs1 r1 p1 => ?_)
  obtain ⟨σ', e, p2⟩ := ofOmap p1
  simp only [Tg.put] at e
  cases e
  exact postNx ok1 p2 ((rs1.put r1).imp fun _ _ => .inl trivial)
/-- a, b = x, y, stored at once -/
theorem s_par {i j : Nat} {x y : PySem.Str} {px py pt2 : Pos} {kt k2 pt3} (hX : Cn G X) (hi : X.N[i]? = some x) (hj : X.N[j]? = some y) (hij : i ≠ j)
    (hx : X.env.scope.names.lookup x = some .local) (hy : X.env.scope.names.lookup y = some .local) (ha : PA X [a, b] (tA G Γ E [A, B]))
    (hw : swappedStores [.Tuple [.Name x px, .Name y py] kt pt2] (.Tuple [a, b] k2 pt3) X.env = pure (some [x, y]))
    (hs : swapsWithSole [.Tuple [.Name x px, .Name y py] kt pt2] (.Tuple [a, b] k2 pt3) pos.line X.env = pure false := by rfl) :
    PS X (.Assign [.Tuple [.Name x px, .Name y py] kt pt2] (.Tuple [a, b] k2 pt3) pos) (tS G Γ E (.asg (.u [.v i, .v j]) (.tup [A, B]))) := by
  refine ps_imp (ps_par hX.calm hX.nd hi hj hij hx hy ha hw hs) fun D σt H ⟨W, σ, e, ok, rs, p⟩ => ?_
  subst e
  have e : evS Γ (.asg (.u [.v i, .v j]) (.tup [A, B])) σ W.h = (evEs Γ [A, B] σ W.h).bind fun ts h => ofO ((Tg.put (.u [.v i, .v j]) (.tup ts) σ).map Fl.next) h := by
    have e2 : evE Γ (.tup [A, B]) σ W.h = (evEs Γ [A, B] σ W.h).bind fun ts h => .ok (.tup ts) h := by rw [evE]
    rw [evS, e2, R_bind_assoc]
    rfl
  rw [e] at p
  refine goA ok rs p fun W1 ts vs ex1 ok1 rs1 r1 p1 => ?_
  obtain ⟨σ', e, p2⟩ := ofOmap p1
  simp only [Tg.put] at e
  have hl := puts_len e
  obtain ⟨t, u, rfl⟩ : ∃ t u, ts = [t, u] := by
    match ts, hl with
    | [t, u], _ => exact ⟨t, u, rfl⟩
  obtain ⟨v, w, rfl, q1, q2⟩ := rts2 r1
  simp only [Tg.puts, Tg.put, Option.bind] at e
  cases e
  exact ⟨v, w, rfl, postNx ok1 p2 (((rs1.put q1).put q2).imp fun _ _ => .inl (.inl trivial))⟩
theorem s_if {aa bb : List Stmt} {As Bs : List Tw.St} (hc : PT X c (tB G Γ E C)) (ha : PSs X aa (tSs G Γ E As)) (hb : PSs X bb (tSs G Γ E Bs)) : PS X (.If c aa bb pos) (tS G Γ E (.if_ C As Bs)) := by
  refine ps_imp (ps_if hc ha hb) fun D σt H ⟨W, σ, e, ok, rs, p⟩ => ?_
  subst e
  unfold evS at p
  refine goB ok rs p fun W1 k ex1 ok1 rs1 p1 => ?_
  cases k with
  | true => exact ⟨W1, σ, rfl, ok1, rs1, p1⟩
  | false => exact ⟨W1, σ, rfl, ok1, rs1, p1⟩
theorem s_pass : PS X (.Pass pos) (tS G Γ E .pass) := by
  refine ps_imp ps_pass fun D σt H ⟨W, σ, e, ok, rs, p⟩ => ?_
  subst e
  exact postNx ok (show PostS G W (.ok (.next σ) W.h) D E by unfold evS at p; exact p) rs
theorem s_brk : PS X (.Break pos) (tS G Γ E .brk) := by
  refine ps_imp ps_break fun D σt H ⟨W, σ, e, ok, rs, p⟩ => ?_
  subst e
  exact postBk ok (show PostS G W (.ok (.brk σ) W.h) D E by unfold evS at p; exact p) rs
theorem s_cont : PS X (.Continue pos) (tS G Γ E .cont) := by
  refine ps_imp ps_continue fun D σt H ⟨W, σ, e, ok, rs, p⟩ => ?_
  subst e
  exact postCt ok (show PostS G W (.ok (.cont σ) W.h) D E by unfold evS at p; exact p) rs
/-- loops -/
theorem s_for (hX : Cn G X) (hp : PassesOwn (model X.prog X.w) X.A X.env X.xe) (hi : PI X tg iter (tI G Γ E it)) (hg : PG X tg (tG G g)) (hb : PSs X ss (tSs G Γ E Ss)) (hs : ∀ x, foldedSetIterable iter X.env x = pure x := by intro _; rfl) :
    PS X (.For tg iter ss [] pos) (tS G Γ E (.for_ g it Ss)) := by
  refine ps_imp (ps_for hp hX.calm hi hg hb hs) fun D σt H ⟨W, σ, e, ok, rs, p⟩ => ?_
  subst e
  unfold evS at p
  refine ⟨W, σ, rfl, ok, rs, p.seq.mono fun J H1 ⟨W1, xs, e1, ex1, ok1, it1, p1⟩ => ?_⟩
  subst e1
  obtain ⟨Gd, Y, w, gd, yl⟩ := it1
  generalize hbo : (fun (σ : Sl) (h : Hm) => evSs Γ Ss σ h) = body at p1
  refine for_it w (fun i σt' H' => ∃ W' σ', W'.H = H' ∧ Ext W1 W' ∧ W'.Ok G ∧ Rs G W' σ' σt' ∧ PostS G W' (forLoop g body (xs.drop i) σ' W'.h) D E) ⟨W1, σ, rfl, .refl W1, ok1, rs.ext ex1, p1⟩ (fun i σt' H' hi ⟨W', σ', eh, ex, _⟩ => eh ▸ gd W' ex) ?_ ?_
  · rintro i x σt' H' H'' hi ⟨W', σ', rfl, ex, ok', rs', q⟩ hy
    obtain ⟨t, W3, ht, rfl, e3, ex3, ok3, r3⟩ := yl i W'.H x H'' W' hy rfl ex ok'
    have hd : xs.drop i = t :: xs.drop (i + 1) := by
      rw [List.drop_eq_getElem_cons hi]
      congr 1
      exact (List.getElem?_eq_some_iff.mp ht).2
    rw [hd] at q
    have q := Post.later ex3 q
    rw [← e3] at q
    unfold forLoop at q
    cases hp : g.put t σ' with
    | none => rw [hp] at q; exact False.elim q
    | some σ2 =>
      rw [hp] at q
      simp only at q
      refine ⟨W3, t, σ', σ2, _, rfl, ok3, r3, rs'.ext ex3, hp, fun σt2 hu rs4 => ⟨W3, σ2, rfl, ok3, rs4.imp fun _ _ => .inl trivial, ?_⟩⟩
      have hbo' : evSs Γ Ss σ2 W3.h = body σ2 W3.h := by rw [← hbo]
      rw [hbo']
      refine q.seq.mono fun b H1 ⟨W4, fl, e4, ex4, ok4, rf, p4⟩ => ?_
      subst e4
      have in4 : Ext W1 W4 := (ex.trans ex3).trans ex4
      cases b <;> cases fl <;> try exact False.elim rf
      · exact ⟨W4, _, rfl, in4, ok4, rf, p4⟩
      · exact postRt (D := D) ok4 p4 rf
      · exact postNx (D := D) ok4 p4 rf
      · exact ⟨W4, _, rfl, in4, ok4, rf, p4⟩
  · rintro σt' H' ⟨W', σ', rfl, ex, ok', rs', q⟩
    rw [List.drop_length] at q
    exact postNx ok' q rs'
theorem s_whl {n : Nat} (hp : PassesOwn (model X.prog X.w) X.A X.env X.xe) (hc : PT X c (tB G Γ E C)) (hb : PSs X ss (tSs G Γ E Ss)) : PS X (.While c ss [] pos) (tS G Γ E (.whl n C Ss)) := by
  refine ps_imp (ps_while hp hc hb) fun D σt H ⟨W, σ, e, ok, rs, p⟩ => ?_
  subst e
  unfold evS at p
  generalize hto : (fun (σ : Sl) (h : Hm) => evB Γ C σ h) = test at p
  generalize hbo : (fun (σ : Sl) (h : Hm) => evSs Γ Ss σ h) = body at p
  refine ⟨fun m σt' H' => ∃ W' σ', W'.H = H' ∧ W'.Ok G ∧ Rs G W' σ' σt' ∧ PostS G W' (whlLoop test body m σ' W'.h) D E, ⟨n, W, σ, rfl, ok, rs, p⟩, ?_⟩
  rintro m σt' H' ⟨W', σ', rfl, ok', rs', q⟩
  cases m with
  | zero => exact False.elim q
  | succ m =>
    unfold whlLoop at q
    have hto' : test σ' W'.h = evB Γ C σ' W'.h := by rw [← hto]
    rw [hto'] at q
    refine goB ok' rs' q fun W2 k ex2 ok2 rs2 q2 => ?_
    cases k with
    | false => exact postNx (D := D) ok2 q2 rs2
    | true =>
      rw [if_pos rfl] at q2 ⊢
      refine ⟨fun σ1 H1 => ∃ W' σ', W'.H = H1 ∧ W'.Ok G ∧ Rs G W' σ' σ1 ∧ PostS G W' (whlLoop test body m σ' W'.h) D E, fun σ1 H1 h => ⟨m, Nat.lt_succ_self m, h⟩, W2, σ', rfl, ok2, rs2, ?_⟩
      have hbo' : evSs Γ Ss σ' W2.h = body σ' W2.h := by rw [← hbo]
      rw [hbo']
      refine q2.seq.mono fun b H1 ⟨W4, fl, e4, ex4, ok4, rf, p4⟩ => ?_
      subst e4
      cases b <;> cases fl <;> try exact False.elim rf
      · exact ⟨W4, _, rfl, ok4, rf, p4⟩
      · exact postRt (D := D) ok4 p4 rf
      · exact postNx (D := D) ok4 p4 rf
      · exact ⟨W4, _, rfl, ok4, rf, p4⟩
/-- o[i] = e -/
theorem s_sto {p2 : Pos} (ho : PE X b (tE G Γ E B)) (hi : PE X c (tE G Γ E C)) (h : PE X a (tE G Γ E A))
    (hs : swapsWithSole [.Subscript b c p2] a pos.line X.env = pure false := by rfl) (hw : swappedStores [.Subscript b c p2] a X.env = pure none := by rfl) (h1 : (assignEach [.Subscript b c p2] X.env).map (·.2) = [assign (.Subscript b c p2) X.env] := by rfl)
    (hq : ∀ v, assign (.Subscript b c p2) X.env v = (do
      let ov ← holding [v] (eval b X.env)
      let iv ← holding [v, ov] (eval c X.env)
      standAt p2
      holding [v, ov, iv] (setItem ov iv v)
      release [v, ov, iv] []) := by intro _; rfl) :
    PS X (.Assign [.Subscript b c p2] a pos) (tS G Γ E (.set B C A)) := by
  refine ps_imp (ps_asg h (pg_sub ho hi set_list hq) hs hw h1) fun D σt H ⟨W, σ, e, ok, rs, p⟩ => ?_
  subst e
  unfold evS at p
  refine goE ok rs p fun W1 x v ex1 ok1 rs1 r1 p1 => goE ok1 rs1 p1 fun W2 o ov ex2 ok2 rs2 r2 p2 => goE ok2 rs2 p2 fun W3 i iv ex3 ok3 rs3 r3 p3 => ?_
  unfold setR at p3
  split at p3
  · rename_i j k
    split at p3
    · rename_i l e
      split at p3
      · rename_i n hn
        obtain ⟨ad, hb, rfl⟩ := RT.ext ex3 _ _ r2
        cases r3
        obtain ⟨vs, hH, r⟩ := ok3.cont j _ ad e hb
        have ex4 : Ext W3 ⟨L2.upd W3.H ad (.lst (vs.set n v)), W3.β, W3.h.set j (some (.lst (l.set n x)))⟩ := Ext.set e hb
        refine ⟨ad, vs, k, n, rfl, rfl, hH, by rw [← r.length]; exact hn, ?_⟩
        have p4 := Post.later ex4 (show PostS G W3 (.ok (.next σ) (W3.h.set j (some (.lst (l.set n x))))) D E from p3)
        exact postNx (W := ⟨L2.upd W3.H ad (.lst (vs.set n v)), W3.β, W3.h.set j (some (.lst (l.set n x)))⟩) (ok3.set e hb ⟨_, upd_same, RTs.ext ex4 _ _ (r.set n (RT.ext (ex2.trans ex3) _ _ r1))⟩) p4 (rs3.ext ex4)
      · exact False.elim p3
    · exact False.elim p3
  · exact False.elim p3
/-- raise X('..') -/
theorem s_raise {k : Nat} (hX : Cn G X) (tk : Takes X (fun cls d _ H => E cls d H)) (he : PMk X a (fun _ H Q => Q (.ref (G.ca k)) none H)) : PS X (.Raise (some a) none pos) (tS G Γ E (.raise k [])) := by
  refine ps_imp (ps_raise hX.calm tk he) fun D σt H ⟨W, σ, e, ok, rs, p⟩ => ?_
  subst e
  have e : evS Γ (.raise k []) σ W.h = .exc k [] W.h := by rw [evS, evEs]; rfl
  rw [e] at p
  exact p W _ _ rfl (.refl W) ok ⟨rfl, rfl⟩
end
end Tw
end
/-! part Tw2j -/
section
set_option Elab.async false
set_option linter.all false
set_option maxRecDepth 100000
/-! Tw2j: functions: what a def promises, its call, its proof from its body; the catcher with a lambda. -/
namespace Tw
open PySem PySem.Spec PyProof.Rows L2

/-- a def's promise; b: it asks that no repr runs around it -/
structure FnX (P : Program) (w : World) (K : PySem.W.Frag) (mg : PySem.Str → Option Value) (base : Heap) (b : Bool) (k : Nat) (f : Addr) (fd : FuncData) (ps : List PySem.Str) (sp : Sp) : Prop where
  len : ∀ vs H Q E, sp vs H Q E → vs.length = ps.length
  run : ∀ (A : Around) (outer : List PySem.Env) (s : Shared) (H : Hp) (args : Args) (us : List Value) (vs : List V) (Q : VK) (E : XK), (b = true → A.guards = some []) → Room k A → Env0 P w K mg base A outer s H → BindsTo s fd args (ps.zip us) → Vals vs us → sp vs H Q E →
    codeAny (model P w) A (.call (.ref f) args) (CR (L2.CX P w) outer P w H s Q E) s
/-- what the evaluator says of a function, as a promise -/
def spF (G : Gx) (Φ : Nat → Option FD) (tf : Nat → R T → R T) (n i : Nat) : Sp := fun vs H Q E => ∃ W ts, W.H = H ∧ W.Ok G ∧ RTs G W ts vs ∧ PostE G W (Tw.call Φ tf n i ts W.h) Q E
/-- a global function's promise by its name -/
structure Fn1 (G : Gx) (P : Program) (w : World) (mg : PySem.Str → Option Value) (base : Heap) (Φ : Nat → Option FD) (tf : Nat → R T → R T) (n i : Nat) (b : Bool) (x : PySem.Str) : Prop where
  ex : ∃ (f : Addr) (fd : FuncData) (ps : List PySem.Str), FnX P w G.K mg base b (3 * n) f fd ps (spF G Φ tf n i) ∧ mg x = some (.ref f) ∧ PySem.W.keepIn G.K (.ref f) = true ∧ Binds G.K fd ps []
section
variable {G : Gx} {Γ : Tw.Env} {E : XK} {X : Cx} {a b c : Expr} {A B C : Ex} {es : List Expr} {As : List Ex} {pos p : Pos} {Φ : Nat → Option FD} {tf : Nat → R T → R T} {n i : Nat} {fb : Bool} {x : PySem.Str}
theorem te_call (F : Fn1 G X.prog X.w X.mg X.base Φ tf n i fb x) (hX : Cn G X) (hb : fb = true → X.A.guards = some []) (hr : Room (3 * n) X.A) (hx : Passes (L2.CX X.prog X.w) X E) (hg : Gl X x) (ha : PA X (a :: es) (tA G ⟨Tw.call Φ tf n, tf⟩ E As))
    (hdb : (x == ("__debug__" : PySem.Str)) = false := by decide) (he : starEach (a :: es) X.env = (false, eval a X.env) :: starEach es X.env := by rfl) (hpl : (backTo pos (starEach es X.env)).any (·.1) = false := by rfl) :
    PE X (.Call (.Name x p) (a :: es) [] pos) (tE G ⟨Tw.call Φ tf n, tf⟩ E (.call i As)) := by
  obtain ⟨f, fd, ps, F, hm, hk, hbi⟩ := F.ex
  refine ⟨fun pins s σt H Q I ⟨W, σ, e, ok, rs, q⟩ => ?_⟩
  subst e
  unfold evE at q
  have h : tA G ⟨Tw.call Φ tf n, tf⟩ E As σt W.H fun vs H1 => spF G Φ tf n i vs H1 Q E := goA ok rs q fun W1 ts vs ex1 ok1 rs1 r1 p1 => ⟨W1, ts, rfl, ok1, r1, p1⟩
  refine wpAny_Call_Name_kw (ld_glob I hg hm ?_ hdb)
  refine PySem.W.callWith_K (h₀ := X.base) I.ok.mod.kin (by rw [hX.K]; exact hk) (thn (ha.run pos pins s σt W.H _ I h) fun us s1 ⟨vs, H1, I1, r, q1⟩ => ⟨I1.kIn, ?_⟩) he hpl
  have hl := F.len _ _ _ _ q1
  have e0 := I1.env0
  rw [hX.K] at e0
  have kin := I1.kIn
  rw [hX.K] at kin
  have hbt := hbi s1 us kin (by rw [List.append_nil, ← r.length]; exact hl)
  rw [List.append_nil] at hbt
  refine wpAny_call (codeAny_mono (F.run X.A X.stack s1 H1 ⟨us, []⟩ us vs Q E hb hr e0 hbt r q1) fun r s' hq => ?_)
  cases r with
  | error e => exact hx pins σt H1 s1 e s' I1 hq
  | ok fl =>
    cases fl with
    | ret u => exact I1.after hq
    | next => exact False.elim hq
    | brk => exact False.elim hq
    | cont => exact False.elim hq
end
section
variable {G : Gx} {P : Program} {w : World} {mg : PySem.Str → Option Value} {base : Heap} {Φ : Nat → Option FD} {tf : Nat → R T → R T} {n i : Nat} {b : Bool} {f : Addr} {fd : FuncData} {x : PySem.Str} {params : Arguments} {body : List Stmt} {scope : Scope} {N ps : List PySem.Str} {np nl : Nat} {bodyT : List Tw.St}
theorem postLeave {W : Wd} {r : R Fl} {Q : VK} {E : XK} (ok : W.Ok G) (p : PostE G W (match r with
    | .ok (.ret t) h' => leave W.h t h'
    | .ok (.next _) h' => leave W.h .non h'
    | .ok _ _ => .bad
    | .exc c ts h' => leaveX W.h c ts h'
    | .bad => .bad) Q E) : PostS G W r { nx := fun _ H' => Q .non H', rt := Q } E := by
  have fin : ∀ {t : T} {h' : Hm}, PostE G W (leave W.h t h') Q E → ∀ W' v, W'.h = h' → Ext W W' → W'.Ok G → RT G W' t v → Q v W'.H := fun {t h'} p W' v e ex ok' r => by
    subst e
    unfold leave at p
    split at p
    · rename_i hc
      rw [Bool.and_eq_true] at hc
      obtain ⟨q1, q2, q3⟩ := Ext.leave ok ok' ex hc.2
      exact p ⟨W'.H, W.β, W'.h.take W.h.length⟩ v rfl q2 q1 (q3 t v hc.1 r)
    · rename_i hc
      cases t with
      | ref j =>
        obtain ⟨ad, hb, rfl⟩ := r
        simp only at p
        split at p
        · rename_i mo hj
          split at p
          · rename_i hc2
            rw [Bool.and_eq_true] at hc2
            have hnj : W.h.length ≤ j := by
              by_cases hlt : j < W.h.length
              · exact absurd (by rw [hc2.2]; simp [T.und, hlt]) hc
              · omega
            obtain ⟨q1, q2⟩ := Ext.leaveM ok ok' ex hc2.2 hj hb hnj hc2.1
            refine p ⟨W'.H, W.β ++ [ad], W'.h.take W.h.length ++ [some mo]⟩ _ rfl q2 q1 ⟨ad, ?_, rfl⟩
            show (W.β ++ [ad])[W.h.length]? = _
            rw [← ok.len]
            simp
          · exact False.elim p
        · exact False.elim p
      | _ => exact False.elim p
  cases r with
  | bad => exact p
  | exc c ts h' =>
    intro W' cls d e ex ok' r
    subst e
    have p : PostE G W (leaveX W.h c ts W'.h) Q E := p
    unfold leaveX at p
    split at p
    · rename_i hc
      rw [Bool.and_eq_true] at hc
      obtain ⟨q1, q2, q3⟩ := Ext.leave ok ok' ex hc.2
      exact p ⟨W'.H, W.β, W'.h.take W.h.length⟩ cls d rfl q2 q1 r
    · exact False.elim p
  | ok fl h' =>
    intro W' b e ex ok' r
    cases fl with
    | next σ =>
      cases b <;> try exact False.elim r
      exact fin (t := .non) p W' .non e ex ok' rfl
    | ret t =>
      cases b <;> try exact False.elim r
      exact fin p W' _ e ex ok' r
    | brk σ => exact False.elim p
    | cont σ => exact False.elim p
/-- a def keeps its promise -/
theorem fnX_of (F : FunD G.K x x params body scope [] [] f fd) (S : FnScope N ps scope) (hΦ : Φ i = some ⟨np, nl, bodyT⟩) (hnp : np = ps.length) (hnl : nl = N.length)
    (hbody : ∀ (cdv : Value) (A : Around) (outer : List PySem.Env) (s : Shared) (H : Hp) (E : XK), (∃ oc od osl fd', G.K.lookup f = some ⟨oc, od, .func fd', osl⟩ ∧ fd'.code = cdv ∧ PySem.W.codeIn G.K cdv x = true) → (b = true → A.guards = some []) → Room (3 * n + 2) (A.deeper (envOfC x scope s.heap.objs.size f cdv)) →
      PSs (cxOf (L2.CX P w) P w G.K mg base N x scope f cdv A outer s H E) body (tSs G ⟨Tw.call Φ tf n, tf⟩ E bodyT)) : FnX P w G.K mg base b (3 * (n + 1)) f fd ps (spF G Φ tf (n + 1) i) := by
  have lenT : ∀ (ts : List T) (h : Hm) {W : Wd} {Q : VK} {E : XK}, PostE G W (Tw.call Φ tf (n + 1) i ts h) Q E → ts.length = np := fun ts h {W Q E} p => by
    unfold Tw.call at p
    rw [hΦ] at p
    by_cases hl : ts.length = np
    · exact hl
    · simp only [if_neg hl] at p
      exact False.elim p
  refine ⟨fun vs H Q E ⟨W, ts, _, _, r, p⟩ => by rw [← r.length, lenT ts _ p, hnp], fun A outer s H args us vs Q E hg hr e0 hb r ⟨W, ts, e, ok, rt, p⟩ => ?_⟩
  subst e
  have hl := lenT ts _ p
  obtain ⟨oc, od, dV, kV, doc, pm, an, cdv, ct, osl, rfl, lk, hcd, _, _⟩ := F.ex
  refine LamX.run_ofS lk hcd S hr e0 hb r (by rw [← rt.length, hl, hnp]) fun hr' => ⟨_, hbody cdv A outer s W.H E ⟨_, _, _, _, lk, rfl, hcd⟩ hg hr', W, ts.map some ++ List.replicate (nl - np) none, rfl, ok, ?_, postLeave ok ?_⟩
  · have hvl : vs.length = np := by rw [← rt.length, hl]
    unfold L2.start
    refine ⟨by simp [rt.length, hvl, hnl], fun j t _ e => ?_⟩
    by_cases hj : j < ts.length
    · rw [List.getElem?_append_left (by simpa using hj), List.getElem?_map] at e
      obtain ⟨t', e1, e2⟩ := Option.map_eq_some_iff.mp e
      cases e2
      obtain ⟨v, h1, h2⟩ := rt.get e1
      refine ⟨v, ?_, h2⟩
      rw [List.getElem?_append_left (by rw [List.length_map, ← rt.length]; exact hj), List.getElem?_map, h1]
      rfl
    · rw [List.getElem?_append_right (by simpa using hj), List.getElem?_replicate] at e
      split at e <;> cases e
  · unfold Tw.call at p
    rw [hΦ] at p
    simp only [if_pos hl] at p
    exact p
theorem fnX_zero : FnX P w G.K mg base b 0 f fd ps (spF G Φ tf 0 i) :=
  ⟨fun vs H Q E ⟨W, ts, _, _, r, p⟩ => False.elim p, fun A outer s H args us vs Q E hg hr e0 hb r ⟨W, ts, e, ok, rt, p⟩ => False.elim p⟩
/-- what stands in a def's context -/
theorem cn_def {N : List PySem.Str} {f : Addr} {cdv : Value} {A : Around} {outer : List PySem.Env} {s : Shared} {H : Hp} {E : XK} {n : Nat} (S : FnScope N ps scope) (hr : Room n (A.deeper (envOfC x scope s.heap.objs.size f cdv))) :
    Cn G (cxOf (L2.CX P w) P w G.K mg base N x scope f cdv A outer s H E) := ⟨rfl, S.nd, rfl, hr.units⟩
theorem tk_def {f : Addr} {cdv : Value} {A : Around} {outer : List PySem.Env} {s : Shared} {H : Hp} {E : XK} : Takes (cxOf (L2.CX P w) P w G.K mg base N x scope f cdv A outer s H E) (fun cls d _ H => E cls d H) := takes_of rfl rfl rfl rfl
theorem ps_def {f : Addr} {cdv : Value} {A : Around} {outer : List PySem.Env} {s : Shared} {H : Hp} {E : XK} : Passes (L2.CX P w) (cxOf (L2.CX P w) P w G.K mg base N x scope f cdv A outer s H E) E := passes_call tk_def fun _ _ _ _ h => h
theorem ow_def {f : Addr} {cdv : Value} {A : Around} {outer : List PySem.Env} {s : Shared} {H : Hp} {E : XK} : PassesOwn (model P w) (cxOf (L2.CX P w) P w G.K mg base N x scope f cdv A outer s H E).A (cxOf (L2.CX P w) P w G.K mg base N x scope f cdv A outer s H E).env (cxOf (L2.CX P w) P w G.K mg base N x scope f cdv A outer s H E).xe := PassesOwn.leaving
/-- in a comprehension's block nothing leaves -/
theorem ps_blk {X : Cx} {s : Shared} {H : Hp} {scope : Scope} {env : PySem.Env} {fp : List Addr} : Passes (L2.CX X.prog X.w) (X.blk s H scope env fp) E0 := passes_call (X := X.blk s H scope env fp) LamX.takes0 fun _ _ _ _ h => h
end
end Tw
end
/-! part Tw2k -/
section
set_option Elab.async false
set_option linter.all false
set_option maxRecDepth 100000
/-! Tw2k: a context's facts in one; short words; the catcher. -/
namespace Tw
open PySem PySem.Spec PyProof.Rows L2

/-- what the module's names stand for -/
structure Mg (G : Gx) (fr : List PySem.Str) (is : List (PySem.Str × Int)) (ss : List (PySem.Str × List Nat)) (cs : List (PySem.Str × Nat)) (mg : PySem.Str → Option Value) : Prop where
  fr : ∀ (j : Nat) (x : PySem.Str), fr[j]? = some x → mg x = none
  is : ∀ (j : Nat) p, is[j]? = some p → ∃ t, mg p.1 = some (.int p.2 t)
  ss : ∀ (j : Nat) p, ss[j]? = some p → ∃ t, mg p.1 = some (.str (tx p.2) t)
  cs : ∀ (j : Nat) p, cs[j]? = some p → mg p.1 = some (.ref (G.ca p.2)) ∧ PySem.W.excIn G.K (G.ca p.2) He.veBase "ValueError.__new__" = true ∧ PySem.W.keepIn G.K (.ref (G.ca p.2)) = true ∧ PySem.W.subIn G.K (.ref (G.ca p.2)) (.type "BaseException") = some true ∧ PySem.W.typeIn G.K (.ref (G.ca p.2)) = some (.type "type")
/-- a law's things -/
structure Lw where
  G : Gx
  Φ : Nat → Option FD
  tf : Nat → R T → R T
  tbl : List (Nat × Bool × PySem.Str)
  fr : List PySem.Str
  is : List (PySem.Str × Int)
  ss : List (PySem.Str × List Nat)
  cs : List (PySem.Str × Nat)
abbrev Lw.Γ (L : Lw) (n : Nat) : Tw.Env := ⟨Tw.call L.Φ L.tf n, L.tf⟩
/-- all that the rules want of a context -/
structure Kx (L : Lw) (X : Cx) (E : XK) (n : Nat) (b : Bool) : Prop where
  c : Cn L.G X
  r : Room (3 * n) X.A
  g : b = true → X.A.guards = some []
  x : Passes (L2.CX X.prog X.w) X E
  o : PassesOwn (model X.prog X.w) X.A X.env X.xe
  m : Mg L.G L.fr L.is L.ss L.cs X.mg
  f : ∀ (j : Nat) q, L.tbl[j]? = some q → Fn1 L.G X.prog X.w X.mg X.base L.Φ L.tf n q.1 q.2.1 q.2.2
theorem Kx.blk {L : Lw} {X : Cx} {E : XK} {n : Nat} {b : Bool} (k : Kx L X E n b) {s : Shared} {H : Hp} {scope : Scope} {cl : List (PySem.Str × Addr)} {C : Addr} {fp : List Addr} : Kx L (X.blk s H scope (compEnvC scope cl C X.env) fp) E0 n b :=
  ⟨k.c.blk, k.r, k.g, ps_blk, PassesOwn.never, k.m, k.f⟩
theorem kx_def {L : Lw} {P : Program} {w : World} {mg : PySem.Str → Option Value} {base : Heap} {n : Nat} {b : Bool} {x : PySem.Str} {scope : Scope} {N ps : List PySem.Str} {f : Addr} {cdv : Value} {A : Around} {outer : List PySem.Env} {s : Shared} {H : Hp} {E : XK}
    (S : FnScope N ps scope) (hg : b = true → A.guards = some []) (hr : Room (3 * n + 2) (A.deeper (envOfC x scope s.heap.objs.size f cdv))) (m : Mg L.G L.fr L.is L.ss L.cs mg) (f1 : ∀ (j : Nat) q, L.tbl[j]? = some q → Fn1 L.G P w mg base L.Φ L.tf n q.1 q.2.1 q.2.2) :
    Kx L (cxOf (L2.CX P w) P w L.G.K mg base N x scope f cdv A outer s H E) E n b := ⟨cn_def S hr, hr.mono (Nat.le_add_right _ 2), hg, ps_def, ow_def, m, f1⟩

section
variable {L : Lw} {X : Cx} {E : XK} {n : Nat} {b : Bool} {a c d : Expr} {A B C : Ex} {es : List Expr} {As : List Ex} {pos p p2 : Pos} {x : PySem.Str}
theorem Kx.v (k : Kx L X E n b) (i : Nat) {x : PySem.Str} {pos : Pos} (hN : X.N[i]? = some x := by rfl) (hv : Vis X.env.scope x := by first | exact Or.inl rfl | exact Or.inr (Or.inl rfl) | exact Or.inr (Or.inr rfl)) (hd : (x == ("__debug__" : PySem.Str)) = false := by decide) (hcd : (x == ("__classdict__" : PySem.Str)) = false := by decide) :
    PE X (.Name x pos) (tE L.G (L.Γ n) E (.v i)) := te_v hN hv hd hcd
theorem Kx.ci (k : Kx L X E n b) (j : Nat) {i : Int} (h : L.is[j]? = some (x, i) := by rfl) (hg : Gl X x := by rfl) (hd : (x == ("__debug__" : PySem.Str)) = false := by decide) : PE X (.Name x pos) (tE L.G (L.Γ n) E (.c (.int i))) := by
  obtain ⟨t, e⟩ := k.m.is j _ h
  exact te_g (v := .int i) hg e ⟨t, rfl⟩ (fun _ => rfl) hd
theorem Kx.cz (k : Kx L X E n b) (j : Nat) {z : List Nat} (h : L.ss[j]? = some (x, z) := by rfl) (hz : decide (z.length ≤ lim) = true := by rfl) (hg : Gl X x := by rfl) (hd : (x == ("__debug__" : PySem.Str)) = false := by decide) : PE X (.Name x pos) (tE L.G (L.Γ n) E (.c (.str z))) := by
  obtain ⟨t, e⟩ := k.m.ss j _ h
  exact te_g (v := .str (tx z)) hg e ⟨t, rfl⟩ (fun _ => ⟨rfl, lim_line (of_decide_eq_true hz)⟩) hd
theorem Kx.s (k : Kx L X E n b) (z : List Nat) {x : PySem.Str} {j} {pos : Pos} (h : x = tx z := by rfl) (hz : decide (z.length ≤ lim) = true := by rfl) : PE X (.Constant (.str x) j pos) (tE L.G (L.Γ n) E (.c (.str z))) := te_s h (of_decide_eq_true hz)
theorem Kx.call (k : Kx L X E n b) (j : Nat) {i : Nat} {fb : Bool} (ha : PA X (a :: es) (tA L.G (L.Γ n) E As)) (h : L.tbl[j]? = some (i, fb, x) := by rfl) (hb : fb = true → b = true := by first | exact fun z => z | exact fun z => Bool.noConfusion z) (hg : Gl X x := by rfl)
    (hdb : (x == ("__debug__" : PySem.Str)) = false := by decide) (he : starEach (a :: es) X.env = (false, eval a X.env) :: starEach es X.env := by rfl) (hpl : (backTo pos (starEach es X.env)).any (·.1) = false := by rfl) :
    PE X (.Call (.Name x p) (a :: es) [] pos) (tE L.G (L.Γ n) E (.call i As)) := te_call (k.f j _ h) k.c (fun z => k.g (hb z)) k.r k.x hg ha hdb he hpl
theorem Kx.bi (k : Kx L X E n b) (j : Nat) (m : Bool) (f : Bi) {id : String} (ha : PA X (a :: es) (tA L.G (L.Γ n) E As)) (hf : biV f = .builtin id := by rfl) (hm : L.fr[j]? = some x := by rfl) (hr : f = .repr → b = true := by first | exact fun _ => rfl | exact fun z => nomatch z) (hv : bootBuiltins x = some (.builtin id) := by rfl) (hg : Gl X x := by rfl)
    (hn : x ≠ "__name__" := by decide) (hdb : (x == ("__debug__" : PySem.Str)) = false := by decide) (he : starEach (a :: es) X.env = (false, eval a X.env) :: starEach es X.env := by rfl) (hpl : (backTo pos (starEach es X.env)).any (·.1) = false := by rfl) :
    PE X (.Call (.Name x p) (a :: es) [] pos) (tE L.G (L.Γ n) E (.bi m f As)) := te_bi hf (fun z => k.g (hr z)) k.c hg (k.m.fr j _ hm) hv ha hn hdb he hpl
theorem Kx.bt (k : Kx L X E n b) (j : Nat) (m : Bool) (f : Bi) {T : String} (ha : PA X (a :: es) (tA L.G (L.Γ n) E As)) (hf : biV f = .type T := by rfl) (hm : L.fr[j]? = some x := by rfl) (hv : bootBuiltins x = some (.type T) := by rfl) (hg : Gl X x := by rfl)
    (hn : x ≠ "__name__" := by decide) (hdb : (x == ("__debug__" : PySem.Str)) = false := by decide) (he : starEach (a :: es) X.env = (false, eval a X.env) :: starEach es X.env := by rfl) (hpl : (backTo pos (starEach es X.env)).any (·.1) = false := by rfl) :
    PE X (.Call (.Name x p) (a :: es) [] pos) (tE L.G (L.Γ n) E (.bi m f As)) := te_bt hf k.c hg (k.m.fr j _ hm) hv ha hn hdb he hpl
theorem Kx.isi (k : Kx L X E n b) (j j2 : Nat) (y : Ty) (ha : PE X a (tE L.G (L.Γ n) E A)) (hm : L.fr[j]? = some "isinstance" := by rfl) (hm2 : L.fr[j2]? = some x := by rfl) (hv : bootBuiltins x = some (.type (tyS y)) := by rfl) (hg : Gl X "isinstance" := by rfl) (hg2 : Gl X x := by rfl)
    (hn : x ≠ "__name__" := by decide) (hdb : (x == ("__debug__" : PySem.Str)) = false := by decide)
    (he : starEach [a, .Name x p2] X.env = (false, eval a X.env) :: starEach [.Name x p2] X.env := by rfl) (he2 : starEach [.Name x p2] X.env = (false, eval (.Name x p2) X.env) :: starEach [] X.env := by rfl) (hpl : (backTo pos (starEach [.Name x p2] X.env)).any (·.1) = false := by rfl) :
    PE X (.Call (.Name "isinstance" p) [a, .Name x p2] [] pos) (tE L.G (L.Γ n) E (.isi A y)) := te_isi (p3 := p) k.c hg (k.m.fr j _ hm) hg2 (k.m.fr j2 _ hm2) hv ha rfl hn hdb he he2 hpl
theorem te_d {G : Gx} {Γ : Tw.Env} {m : Bool} : PE X (.Dict [] [] pos) (tE G Γ E (.dct0 m)) := by
  refine pe_imp pe_dnewK fun σt H Q ⟨W, σ, e, ok, rs, q⟩ => ?_
  subst e
  unfold evE at q
  exact fun d hd => mk_dct0 ok q d hd
theorem Kx.raise (k : Kx L X E n b) (tk : Takes X (fun cls d _ H => E cls d H)) (j : Nat) {i : Nat} {z : PySem.Str} {jj} {p3 p4 : Pos} (h : L.cs[j]? = some (x, i) := by rfl) (hg : Gl X x := by rfl) (hdb : (x == ("__debug__" : PySem.Str)) = false := by decide) :
    PS X (.Raise (some (.Call (.Name x p) [.Constant (.str z) jj p3] [] p4)) none pos) (tS L.G (L.Γ n) E (.raise i [])) := by
  obtain ⟨h1, h2, h3, h4, h5⟩ := k.m.cs j _ h
  have eK := k.c.K
  exact s_raise k.c tk (pmk_own PySem.F.excBase_ValueError (by rw [eK]; exact h2) h1 (by rw [eK]; exact h3) (raises_own (by rw [eK]; exact h4) (by rw [eK]; exact h5)) hg hdb)
end
end Tw
end
/-! part Tw2l -/
section
set_option Elab.async false
set_option linter.all false
set_option maxRecDepth 100000
/-! Tw2l: a lambda handed to a catcher; the law's end. -/
namespace Tw
open PySem PySem.Spec PyProof.Rows L2
open LamX (TabB Tabs ExtN CodeO lamCx lamEnv LamS GivesTo TabS)

/-- what stands in a lambda's context -/
theorem kx_lam {L : Lw} {X : Cx} {E : XK} {n : Nat} {b : Bool} (k : Kx L X E n b) {A : Around} {outer : List PySem.Env} {s : Shared} {H : Hp} {E' : XK} {scope : Scope} {f c' : Addr} (hr : Room (3 * n) (A.deeper (lamEnv X scope s.heap.objs.size f c'))) : Kx L (lamCx X A outer s H E' scope f c') E' n false :=
  ⟨⟨k.c.K, k.c.nd, rfl, hr.units⟩, hr, fun z => Bool.noConfusion z, passes_call (X := lamCx X A outer s H E' scope f c') (takes_of rfl rfl rfl rfl) fun _ _ _ _ h => h, PassesOwn.leaving, k.m, k.f⟩
/-- the catcher's facts in a context -/
structure Cat (L : Lw) (X : Cx) (g : Nat) (x : PySem.Str) (n : Nat) : Prop where
  ex : ∃ (a : PySem.Str) (ga : Addr) (c P : Addr) (pg : Arguments) (bg : List Stmt) (sg : Scope) (dV kV doc pm cdv ct oc : Value) (an od : Option Addr) (osl : Array (Option Value)) (Ng : List PySem.Str) (TT : (XK → Hp → VK → Prop) → Hp → VK → Prop),
    X.mg x = some (.ref ga) ∧ PySem.W.keepIn X.K (.ref ga) = true ∧ X.K.lookup ga = some ⟨oc, od, .func (PySem.W.fnOf x x pg bg sg dV kV doc pm an cdv ct), osl⟩ ∧ PySem.W.codeIn X.K cdv x = true ∧ L2.Binds X.K (PySem.W.fnOf x x pg bg sg dV kV doc pm an cdv ct) [a] [] ∧ FnScope Ng [a] sg ∧ Ng[0]? = some a ∧ Vis sg a ∧
    (a == ("__debug__" : PySem.Str)) = false ∧ (a == ("__classdict__" : PySem.Str)) = false ∧ GivesTo X Ng x sg ga cdv bg a (X.env.qual ++ "<lambda>") TT ∧ TabB X.base X.mg c P ∧ X.env.code = .ref c ∧ (P, X.env.qual ++ "<lambda>") ∈ L.G.tb ∧ (∀ p ∈ L.G.tb, p.1 = P → p.2 = X.env.qual ++ "<lambda>") ∧ Room (3 * n + 2) X.A ∧
    ∀ (A : Ex) (σt : L2.St) (W : Wd) (σ : Sl) (Q : VK) (E : XK), W.Ok L.G → Rs L.G W σ σt → PostE L.G W (L.tf g (evE (L.Γ n) A σ W.h)) Q E → TT (fun E' H' Q' => tE L.G (L.Γ n) E' A σt H' Q') W.H Q
section
variable {L : Lw} {X : Cx} {E : XK} {n : Nat} {b : Bool} {A : Ex} {g : Nat} {x : PySem.Str} {p lpos pos : Pos} {params : Arguments} {body : Expr} {scope : Scope}
theorem te_told (k : Kx L X E n b) (C : Cat L X g x n) (hg : Gl X x) (S : LamS X.env.scope scope) (hdef : defaultsOf params X.env = ([], []))
    (hbind : ∀ (q : PySem.Str) (cl : List (PySem.Str × Addr)) (pm cv ctv : Value), bindArgs (PySem.W.kla_fn "<lambda>" q params body scope cl pm cv ctv) ⟨[], []⟩ = pure [])
    (hbody : ∀ (A' : Around) (outer : List PySem.Env) (s : Shared) (H : Hp) (E' : XK) (f c' : Addr), Kx L (lamCx X A' outer s H E' scope f c') E' n false → PE (lamCx X A' outer s H E' scope f c') body (tE L.G (L.Γ n) E' A)) (hdb : (x == ("__debug__" : PySem.Str)) = false := by decide) :
    PE X (.Call (.Name x p) [.Lambda params body scope lpos] [] pos) (tE L.G (L.Γ n) E (.told g A)) := by
  obtain ⟨a, ga, c, P, pg, bg, sg, dV, kV, doc, pm, cdv, ct, oc, an, od, osl, Ng, TT, hm, hk, lk, hcg, hbn, Sg, hNg, hva, hd1, hd2, hG, TB, hcode, hmT, hu, hr, hTT⟩ := C.ex
  refine pe_imp (LamX.pe_lamcall (k := 3 * n) hg hm hk lk hcg hbn Sg hNg hva hG TB hcode hmT hu hr S hdef hbind (fun A' outer s H E' f c' hr' => hbody A' outer s H E' f c' (kx_lam k hr')) hdb hd1 hd2) fun σt H Q ⟨W, σ, e, ok, rs, q⟩ => ?_
  subst e
  refine ⟨ok.tabs, fun H1 eN T1 => ?_⟩
  have ex : Ext W ⟨H1, W.β, W.h⟩ := .grow eN
  unfold evE at q
  exact hTT A σt ⟨H1, W.β, W.h⟩ σ Q E (ok.grow eN T1) (rs.ext ex) (Post.later ex q)
end

/-! ### the law's end -/
/-- a law's def, run at a script -/
structure End (P : Program) (w : World) (K : PySem.W.Frag) (k n : Nat) (x : PySem.Str) (mg : PySem.Str → Option Value) (fa : Addr) (h : Heap) : Prop where
  ex : ∃ (b : Bool) (fd : FuncData) (cs : List (Addr × Addr)) (sp : Sp), (∀ p ∈ cs, h.get? p.2 = some { cls := .none, data := .fields #[] }) ∧ (∀ p ∈ cs, K.lookup p.2 = none) ∧ (∀ p ∈ cs, PySem.W.CodeHd h p.1 p.2) ∧ (∀ (s : Shared) (u : Value), BindsTo s fd ⟨[u], []⟩ [(x, u)]) ∧
    (∀ (H : Hp) (a : Addr) (ns : List Int), ns.length ≤ n → (∀ z ∈ ns, Builtin.Int.intBits z ≤ 1048576) → (∀ p ∈ cs, H p.2 = some (.tbl #[])) → SqL K H a (ns.map V.int) → sp [.ref a] H (fun v _ => v = .bl true) fun _ _ _ => False) ∧
    ∀ base : Heap, K.In base → base.Ns mainGlobals mg → (∀ p ∈ cs, TabB base mg p.1 p.2) → FnX P w K mg base b k fa fd [x] sp
/-- the abstract heap at the law's entry: the empty tables, the script (if it is no object of the module) -/
def H0 (K : PySem.W.Frag) (ts : List Addr) (a : Addr) (o : Obj) (xs : List V) : Hp := fun c => if c ∈ ts then some (.tbl #[]) else if c = a ∧ K.lookup a = none then some (.frz o (.lst xs)) else none
theorem end_call {P : Program} {w : World} {K : PySem.W.Frag} {mg mb : PySem.Str → Option Value} {k n : Nat} {fa a : Addr} {x : PySem.Str} {s₁ : Shared} {vs : List Value} {ns : List Int} (Z : End P w K k n x mg fa s₁.heap)
    (hK : K.In s₁.heap) (hN : s₁.heap.Ns mainGlobals mg) (hB : s₁.heap.Ns builtinsNs mb) (hBB : ∀ x : PySem.Str, x ≠ "__name__" → mb x = bootBuiltins x) (hL : s₁.heap.NoLimit) (hG : s₁.gens = #[])
    (hM : ∃ (bm : Addr) (ob : Obj), mg "__builtins__" = some (.ref bm) ∧ bm ≠ builtinsNs ∧ s₁.heap.get? bm = some ob ∧ ob.cls = .type "module" ∧ ob.dict = some builtinsNs ∧ ob.data = .plain)
    (hA : s₁.heap.get? a = some { cls := .type "list", data := .seq vs.toArray }) (hI : IntsAre vs ns) (hz : ns.length ≤ sizeLine) (hn : ns.length ≤ n) (hbits : ∀ z ∈ ns, Builtin.Int.intBits z ≤ 1048576) (hR : Room k callerA) :
    codeAny (model P w) callerA (.call (.ref fa) ⟨[.ref a], []⟩) (fun r s' => r = .ok (.ret (.bool true)) ∧ OldK s₁.heap s'.heap ∧ s'.os = s₁.os ∧ AllBare s'.gens) s₁ := by
  obtain ⟨b, fd, cs, sp, tE, tN, tC, bind, hsp, hF⟩ := Z.ex
  have rv := vals_ints hI
  have lv := hI.length
  obtain ⟨ts, hts⟩ : ∃ ts, ts = cs.map (·.2) := ⟨_, rfl⟩
  obtain ⟨oa, hoa⟩ : ∃ oa : Obj, oa = { cls := .type "list", data := .seq vs.toArray } := ⟨_, rfl⟩
  rw [← hoa] at hA
  have inT : ∀ c, c ∈ ts → ∃ p ∈ cs, p.2 = c := fun c hc => by rw [hts] at hc; obtain ⟨p, hp, e⟩ := List.mem_map.mp hc; exact ⟨p, hp, e⟩
  have atT : ∀ c, c ∈ ts → s₁.heap.get? c = some { cls := .none, data := .fields #[] } ∧ K.lookup c = none := fun c hc => by
    obtain ⟨p, hp, rfl⟩ := inT c hc
    exact ⟨tE p hp, tN p hp⟩
  have notA : a ∉ ts := fun hc => by
    have e := (atT a hc).1
    rw [hA, hoa] at e
    cases e
  let H : Hp := H0 K ts a oa (ns.map V.int)
  have hT : ∀ c, c ∈ ts → H c = some (.tbl #[]) := fun c hc => if_pos hc
  have known : ∀ c u, H c = some u → (c ∈ ts ∧ u = .tbl #[]) ∨ (c = a ∧ K.lookup a = none ∧ u = .frz oa (.lst (ns.map V.int))) := fun c u e => by
    have e : (if c ∈ ts then some (HO.tbl #[]) else if c = a ∧ K.lookup a = none then some (.frz oa (.lst (ns.map V.int))) else none) = some u := e
    by_cases h1 : c ∈ ts
    · rw [if_pos h1] at e
      exact .inl ⟨h1, (Option.some.inj e).symm⟩
    · rw [if_neg h1] at e
      by_cases h2 : c = a ∧ K.lookup a = none
      · rw [if_pos h2] at e
        exact .inr ⟨h2.1, h2.2, (Option.some.inj e).symm⟩
      · rw [if_neg h2] at e
        cases e
  have hok : HOk P w H s₁.heap := fun c u e => by
    rcases known c u e with ⟨h1, rfl⟩ | ⟨rfl, _, rfl⟩
    · exact (atT c h1).1
    · exact ⟨hA, by rw [List.length_map]; exact hz, vs, _, rv, by rw [hA, hoa]⟩
  have hS : SqL K H a (ns.map V.int) := by
    cases e : K.lookup a with
    | none => exact .inl (.inr ⟨oa, (if_neg notA).trans (if_pos ⟨rfl, e⟩)⟩)
    | some o =>
      have q := hK a o e
      rw [hA, hoa] at q
      cases q
      exact .inr ⟨_, vs.toArray, _, e, rfl, rfl, rfl, by rw [List.size_toArray, lv]; exact hz, by simpa using rv⟩
  -- what is neither a table nor the script is untracked
  have off : ∀ {c : Addr} {o : Obj}, s₁.heap.get? c = some o → o.data ≠ .fields #[] → (∀ its m, o.data ≠ .seq its m) → H c = none := fun {c o} e d1 d2 => by
    cases q : H c with
    | none => rfl
    | some u =>
      rcases known c u q with ⟨h1, _⟩ | ⟨rfl, _, _⟩
      · have z := (atT c h1).1
        rw [e] at z
        cases z
        exact absurd rfl d1
      · rw [hA, hoa] at e
        cases e
        exact absurd rfl (d2 _ _)
  have offD : ∀ {c : Addr} {o : Obj} {es : Array DictEntry} {ep : Nat}, s₁.heap.get? c = some o → o.data = .dict es ep → H c = none := fun {c o es ep} e d => off e (fun z => by rw [d] at z; cases z) fun _ _ z => by rw [d] at z; cases z
  obtain ⟨base, hbase⟩ : ∃ base, base = hidT s₁.heap H := ⟨_, rfl⟩
  have toB : ∀ {c : Addr} {o : Obj}, s₁.heap.get? c = some o → H c = none → base.get? c = some o := fun e q => by rw [hbase]; exact hidT_get e q
  have nsB : ∀ {c : Addr} {m : PySem.Str → Option Value}, s₁.heap.Ns c m → base.Ns c m := fun {c m} ⟨o, es, ep, e, d, r⟩ => ⟨o, es, ep, toB e (offD e d), d, r⟩
  have inB : K.In base := fun c o e => toB (hK c o e) (by
    cases q : H c with
    | none => rfl
    | some u =>
      rcases known c u q with ⟨h1, _⟩ | ⟨rfl, h2, _⟩
      · rw [(atT c h1).2] at e
        cases e
      · rw [h2] at e
        cases e)
  have tabs : ∀ p ∈ cs, TabB base mg p.1 p.2 := fun p hp => by
    obtain ⟨o, us, file, tf, flags, tg, inF, txt, tt, e1, r1, r2, r3, r4, r5, r6, r7, r8, hne⟩ := tC p hp
    obtain ⟨bm, ob, b1, b2, b3, b4, b5, b6⟩ := hM
    obtain ⟨og, es, ep, eg, dg, _⟩ := id hN
    refine ⟨⟨o, us, file, tf, flags, tg, inF, txt, tt, toB e1 (off e1 (fun z => ?_) fun _ _ z => ?_), r1, r2, r3, r4, r5, r6, r7, r8, hne⟩, ⟨bm, ob, b1, b2, fun z => ?_, fun z => ?_, toB b3 (off b3 (fun z => ?_) fun _ _ z => ?_), b4, b5, b6⟩, fun z => ?_⟩
    · rw [r2] at z
      cases z
      simp at r3
    · rw [r2] at z
      cases z
    · rw [z, eg] at b3
      cases b3
      rw [dg] at b6
      cases b6
    · rw [z, tE p hp] at b3
      cases b3
      cases b6
    · rw [b6] at z
      cases z
    · rw [b6] at z
      cases z
    · rw [z, tE p hp] at eg
      cases eg
      cases dg
  have M : L2.Mod K mg base := ⟨inB, nsB hN, ⟨mb, nsB hB, hBB⟩, let ⟨mc, h1, h2⟩ := hL; ⟨mc, nsB h1, h2⟩⟩
  have env : Env0 P w K mg base callerA [] s₁ H := ⟨rfl, M, fun c o e => of_hidT (by rw [← hbase]; exact e), by rw [hbase]; exact Nat.le_of_eq (hidT_size _ _), trivial, fun c hc => absurd (show c ∈ ([] : List Addr) from hc) (by simp), hok, .of_eq hG⟩
  have go := (hF base inB (nsB hN) tabs).run callerA [] s₁ H ⟨[.ref a], []⟩ [.ref a] [.ref a] _ _ (fun _ => rfl) hR env (bind s₁ (.ref a)) (.cons rfl .nil) (hsp H a ns hn hbits (fun p hp => hT _ (by rw [hts]; exact List.mem_map.mpr ⟨p, hp, rfl⟩)) hS)
  refine codeAny_mono go fun r s' q => ?_
  cases r with
  | error e =>
    obtain ⟨_, _, _, _, _, _, _, _, _, _, _, _, z⟩ := q
    exact z.elim
  | ok fl =>
    cases fl with
    | next => exact q.elim
    | brk => exact q.elim
    | cont => exact q.elim
    | ret u =>
      obtain ⟨v, H', os, bare, un, ok', r', e⟩ := q
      have e : v = .bl true := e
      subst e
      obtain rfl : u = Value.bool true := r'
      have stays : ∀ c o, c ∉ ts → s₁.heap.get? c = some o → s'.heap.get? c = some o := fun c o hc e => by
        cases q : H c with
        | none => exact un.keep c o e q (fun z => absurd (show c ∈ ([] : List Addr) from z) (by simp)) (by simp)
        | some u =>
          rcases known c u q with ⟨h1, _⟩ | ⟨_, _, rfl⟩
          · exact absurd h1 hc
          · have z1 := (hok c _ q).1
            have z2 := (ok' c _ (un.frzs c _ _ q)).1
            rw [e] at z1
            cases z1
            exact z2
      have grown : ∀ p ∈ cs, ∃ more : Array Value, s'.heap.get? p.2 = some { cls := .none, data := .fields more } := fun p hp => by
        obtain ⟨more, z⟩ := un.tbls p.2 #[] (hT _ (by rw [hts]; exact List.mem_map.mpr ⟨p, hp, rfl⟩))
        exact ⟨_, ok' p.2 _ z⟩
      refine ⟨rfl, ⟨fun c o e => ?_, fun c o e => ?_⟩, os, bare⟩
      · by_cases hc : c ∈ ts
        · obtain ⟨p, hp, rfl⟩ := inT c hc
          obtain ⟨more, hm⟩ := grown p hp
          rw [tE p hp] at e
          cases e
          exact .inr (.inl ⟨((tC p hp).tab (tE p hp)).isCodeTable, rfl, #[], more, rfl, by rw [Array.empty_append]; exact hm⟩)
        · exact .inl (stays c o hc e)
      · by_cases hc : c ∈ ts
        · obtain ⟨p, hp, rfl⟩ := inT c hc
          obtain ⟨more, hm⟩ := grown p hp
          exact ⟨_, hm⟩
        · exact ⟨o, stays c o hc e⟩
theorem end_walk {l : PySem.W.OpenLaw} {n k : Nat} {q : Program} {loose : List PySem.Str} {XP : (PySem.Str → Option Value) → Heap → Prop} {YP : World → Heap → Prop} {d : DefRec} {x : PySem.Str} (hn : l.most = some n) (hz : n ≤ sizeLine) (hdf : d.params.defaults = []) (hR : Room k callerA)
    (F : ∀ (w : World) (mg : PySem.Str → Option Value) (fa : Addr) (h : Heap), YP w h → h.Ns mainGlobals mg → mg d.name = some (.ref fa) → ∃ K : PySem.W.Frag, K.In h ∧ End l.prog w K k n x mg fa h) : PySem.W.WalkO q loose XP YP l.row.toRowW d [] (fun f vs => PySem.call f vs) := by
  refine Att.attach_callB hn hdf fun w s₀ s₁ mg mb fa o pm cd doc a vs ns G Y ho hd hcd hmg hobj hints hlen hbits hg => ?_
  obtain ⟨K, hK, Z⟩ := F w mg fa _ Y G.T.g hmg
  exact end_call Z hK G.T.g G.T.b G.T.builtins G.T.nolimit hg G.T.bmain hobj hints (Nat.le_trans hlen hz) hlen hbits hR
end Tw
end
/-! part Hd60 -/
section
set_option Elab.async false
set_option linter.all false
set_option maxRecDepth 100000
set_option maxHeartbeats 0
/-! the head of the law: facts by names -/
namespace Hd
open PySem PySem.Spec PyProof.Rows L2
abbrev rw_ := PySem.Challenge.rw_fewmarks_k60_patterns
/-- an error class that isinstance asks rightly -/
def excB (K : PySem.W.Frag) (x : PySem.Str) : Bool := decide (PySem.W.findIn K (.ref (He.ga K x)) "__getattribute__" = some (some (.builtin "BaseException.__getattribute__"))) && decide (PySem.W.findIn K (.ref (He.ga K x)) "__getattr__" = some none) && decide (PySem.W.subIn K (.ref (He.ga K x)) (.type "BaseException") = some true) && PySem.W.hasDictIn K (He.ga K x) &&
  decide (PySem.W.findIn K (.ref (He.ga K x)) "__class__" = some (some (.builtin "object.__class__"))) && decide (PySem.W.specialIn K (.builtin "object.__class__") "__get__" = some (some (.builtin "getset_descriptor.__get__"))) && decide (PySem.W.takesIn K (.builtin "object.__class__") = some true) && decide (PySem.W.mroIn K (He.ga K x) (.type "object") = some true)
def kitEB (K : PySem.W.Frag) (x y : PySem.Str) (b : Bool) : Bool := decide (PySem.W.kitOne K (.ref (He.ga K x)) (.ref (He.ga K y)) = some b)
def moreB (K : PySem.W.Frag) : Bool := excB K "InvalidText" && excB K "InvalidBook" && kitEB K "InvalidText" "InvalidText" true && kitEB K "InvalidText" "InvalidBook" false && kitEB K "InvalidBook" "InvalidText" false && kitEB K "InvalidBook" "InvalidBook" true
def top (i : Nat) : Stmt := rw_.prog.main.body.getD i (.Pass ⟨0, 0, 0, 0⟩)
abbrev s0 : Stmt := top 7
def d0 : He.DefD := ⟨("is_word", none), "is_word", "is_word", defArgs s0, defBody s0, defScope s0, [], []⟩
abbrev s1 : Stmt := top 8
def d1 : He.DefD := ⟨("is_text", none), "is_text", "is_text", defArgs s1, defBody s1, defScope s1, [], []⟩
abbrev s2 : Stmt := top 9
def d2 : He.DefD := ⟨("are_ascending", none), "are_ascending", "are_ascending", defArgs s2, defBody s2, defScope s2, [], []⟩
abbrev s3 : Stmt := top 11
def d3 : He.DefD := ⟨("require_text", none), "require_text", "require_text", defArgs s3, defBody s3, defScope s3, [], []⟩
abbrev s4 : Stmt := top 16
def d4 : He.DefD := ⟨("is_item", none), "is_item", "is_item", defArgs s4, defBody s4, defScope s4, [], []⟩
abbrev s5 : Stmt := top 17
def d5 : He.DefD := ⟨("is_pattern", none), "is_pattern", "is_pattern", defArgs s5, defBody s5, defScope s5, [], []⟩
abbrev s6 : Stmt := top 18
def d6 : He.DefD := ⟨("first_sight", none), "first_sight", "first_sight", defArgs s6, defBody s6, defScope s6, [], []⟩
abbrev s7 : Stmt := top 19
def d7 : He.DefD := ⟨("next_sight", none), "next_sight", "next_sight", defArgs s7, defBody s7, defScope s7, [], []⟩
abbrev s8 : Stmt := top 20
def d8 : He.DefD := ⟨("first_trace", none), "first_trace", "first_trace", defArgs s8, defBody s8, defScope s8, [], []⟩
abbrev s9 : Stmt := top 21
def d9 : He.DefD := ⟨("next_trace", none), "next_trace", "next_trace", defArgs s9, defBody s9, defScope s9, [], []⟩
abbrev s10 : Stmt := top 22
def d10 : He.DefD := ⟨("begins_in", none), "begins_in", "begins_in", defArgs s10, defBody s10, defScope s10, [], []⟩
abbrev s11 : Stmt := top 23
def d11 : He.DefD := ⟨("ends_in", none), "ends_in", "ends_in", defArgs s11, defBody s11, defScope s11, [], []⟩
abbrev s12 : Stmt := top 24
def d12 : He.DefD := ⟨("require_pattern", none), "require_pattern", "require_pattern", defArgs s12, defBody s12, defScope s12, [], []⟩
abbrev s13 : Stmt := top 25
def d13 : He.DefD := ⟨("fits", none), "fits", "fits", defArgs s13, defBody s13, defScope s13, [], []⟩
abbrev s14 : Stmt := top 26
def d14 : He.DefD := ⟨("begins_with", none), "begins_with", "begins_with", defArgs s14, defBody s14, defScope s14, [], []⟩
abbrev s15 : Stmt := top 27
def d15 : He.DefD := ⟨("ends_with", none), "ends_with", "ends_with", defArgs s15, defBody s15, defScope s15, [], []⟩
abbrev s16 : Stmt := top 29
def d16 : He.DefD := ⟨("_law_start", none), "_law_start", "_law_start", defArgs s16, defBody s16, defScope s16, [], []⟩
abbrev s17 : Stmt := top 30
def d17 : He.DefD := ⟨("_law_throw", none), "_law_throw", "_law_throw", defArgs s17, defBody s17, defScope s17, [], []⟩
abbrev s18 : Stmt := top 31
def d18 : He.DefD := ⟨("_law_pick", none), "_law_pick", "_law_pick", defArgs s18, defBody s18, defScope s18, [], []⟩
abbrev s19 : Stmt := top 32
def d19 : He.DefD := ⟨("_law_drawn_word", none), "_law_drawn_word", "_law_drawn_word", defArgs s19, defBody s19, defScope s19, [], []⟩
abbrev s20 : Stmt := top 33
def d20 : He.DefD := ⟨("_law_drawn_items", none), "_law_drawn_items", "_law_drawn_items", defArgs s20, defBody s20, defScope s20, [], []⟩
abbrev s21 : Stmt := top 34
def d21 : He.DefD := ⟨("_law_drawn_pattern", none), "_law_drawn_pattern", "_law_drawn_pattern", defArgs s21, defBody s21, defScope s21, [], []⟩
abbrev s22 : Stmt := top 35
def d22 : He.DefD := ⟨("_law_fits_in", none), "_law_fits_in", "_law_fits_in", defArgs s22, defBody s22, defScope s22, [], []⟩
abbrev s23 : Stmt := top 36
def d23 : He.DefD := ⟨("_law_begins_in", none), "_law_begins_in", "_law_begins_in", defArgs s23, defBody s23, defScope s23, [], []⟩
abbrev s24 : Stmt := top 37
def d24 : He.DefD := ⟨("_law_ends_in", none), "_law_ends_in", "_law_ends_in", defArgs s24, defBody s24, defScope s24, [], []⟩
abbrev s25 : Stmt := top 38
def d25 : He.DefD := ⟨("_law_told", none), "_law_told", "_law_told", defArgs s25, defBody s25, defScope s25, [], []⟩
abbrev s26 : Stmt := top 39
def d26 : He.DefD := ⟨("_law_near_text", none), "_law_near_text", "_law_near_text", defArgs s26, defBody s26, defScope s26, [], []⟩
abbrev s27 : Stmt := top 40
def d27 : He.DefD := ⟨("_law_judged_right", none), "_law_judged_right", "_law_judged_right", defArgs s27, defBody s27, defScope s27, [], []⟩
abbrev s28 : Stmt := top 41
def d28 : He.DefD := ⟨("_law_bad_patterns", none), "_law_bad_patterns", "_law_bad_patterns", defArgs s28, defBody s28, defScope s28, [], []⟩
abbrev s29 : Stmt := top 42
def d29 : He.DefD := ⟨("_law_refused_right", none), "_law_refused_right", "_law_refused_right", defArgs s29, defBody s29, defScope s29, [], []⟩
abbrev s30 : Stmt := top 43
def d30 : He.DefD := ⟨("law", none), "law", "law", defArgs s30, defBody s30, defScope s30, [], []⟩
def fns0 : List He.DefD := [d0, d1, d2, d3, d4, d5, d6, d7, d8, d9, d10, d11, d12, d13, d14, d15, d16, d17, d18, d19, d20, d21, d22, d23, d24, d25, d26, d27, d28, d29]
def fns1 : List He.DefD := [d30]
def fns : List He.DefD := fns0 ++ fns1
def fcs0 : List He.Fa := [.glo "is_word", .glo "is_text", .glo "are_ascending", .glo "require_text", .glo "is_item", .glo "is_pattern", .glo "first_sight", .glo "next_sight", .glo "first_trace", .glo "next_trace", .glo "begins_in", .glo "ends_in", .glo "require_pattern", .glo "fits", .glo "begins_with", .glo "ends_with", .glo "_law_start", .glo "_law_throw", .glo "_law_pick", .glo "_law_drawn_word", .glo "_law_drawn_items", .glo "_law_drawn_pattern", .glo "_law_fits_in", .glo "_law_begins_in", .glo "_law_ends_in", .glo "_law_told", .glo "_law_near_text", .glo "_law_judged_right", .glo "_law_bad_patterns", .glo "_law_refused_right"]
def fcs1 : List He.Fa := [.glo "law", .glo "MarkError", .glo "InvalidText", .glo "InvalidBook", .int "MAX_TEXT" 60, .str "LETTERS" "abcdefghijklmnopqrstuvwxyz", .int "MOST_ITEMS" 3, .str "ONE" "one", .str "ANY" "any", .free "abs", .free "all", .free "bool", .free "enumerate", .free "int", .free "isinstance", .free "len", .free "list", .free "max", .free "min", .free "range", .free "repr", .free "str", .free "tuple", .free "zip", .exc "MarkError", .exc "InvalidText", .exc "InvalidBook", .exm "MarkError" "MarkError" true, .exm "InvalidText" "MarkError" true, .exm "InvalidBook" "MarkError" true]
def fcs : List He.Fa := fcs0 ++ fcs1
def loose0 : List PySem.Str := ["MarkError", "InvalidText", "InvalidBook", "MAX_TEXT", "LETTERS", "is_word", "is_text", "are_ascending", "require_text", "MOST_ITEMS", "ONE", "ANY", "is_item", "is_pattern", "first_sight", "next_sight", "first_trace", "next_trace", "begins_in", "ends_in", "require_pattern", "fits", "begins_with", "ends_with", "_law_start", "_law_throw", "_law_pick", "_law_drawn_word", "_law_drawn_items", "_law_drawn_pattern"]
def loose1 : List PySem.Str := ["_law_fits_in", "_law_begins_in", "_law_ends_in", "_law_told", "_law_near_text", "_law_judged_right", "_law_bad_patterns", "_law_refused_right"]
def loose : List PySem.Str := loose0 ++ loose1
def tfs : List He.Defn := [("_law_refused_right", none)]
def M : Nat := 6000
abbrev R_ : PySem.W.OpenRow := PySem.W.OpenLaw.row rw_
abbrev qv : PySem.Program := PySem.W.view R_.prog [43]
def lawAt : Nat := 43
def more (K : PySem.W.Frag) : Bool := moreB K
abbrev hk : PySem.W.Hook := He.hookX 5 fcs fns [] tfs more
def ob (s : PySem.W.SharedT) : He.AlX := He.obsX 5 fcs fns [] tfs more (HandSHeadRun.getT s)
theorem ob_eq (s : PySem.W.SharedT) : ob s = hk.obs s.abs := He.obsX_eq (HandSHeadRun.getT_eq s)
theorem run (w : World) : HandSHeadRun.RunEq R_ qv hk ob M loose w := by
  intro os
  kernel_rfl
end Hd
end
/-! part K60a -/
section
set_option autoImplicit false
/-! K60a: the functions of law k60 as trees. Printed by gen_tw.py. -/
namespace K60
open Tw
/-- is_word -/
def b0 : List St := [.ret (.and (.isi (.v 0) .str) (.bi false .all [.lc false (.v 1) (.e (.v 0)) [] (.cmp .in_ (.v 1) (.c (.str [97, 98, 99, 100, 101, 102, 103, 104, 105, 106, 107, 108, 109, 110, 111, 112, 113, 114, 115, 116, 117, 118, 119, 120, 121, 122])))]))]
/-- is_text -/
def b1 : List St := [.ret (.and (.isi (.v 0) .str) (.and (.cmp .le (.bi false .len [.v 0]) (.c (.int 60))) (.call 0 [.v 0])))]
/-- are_ascending -/
def b2 : List St := [.ret (.bi false .all [.lc false (.u [.v 1, .v 2]) (.zip (.v 0) (.sl false (.v 0) [.c (.int 1)] [])) [] (.cmp .lt (.v 1) (.v 2))])]
/-- require_text -/
def b3 : List St := [.if_ (.not (.call 1 [.v 0])) [.raise 1 []] []]
/-- is_item -/
def b4 : List St := [.if_ (.or (.not (.isi (.v 0) .tuple)) (.or (.cmp .ne (.bi false .len [.v 0]) (.c (.int 2))) (.or (.not (.call 0 [.ix (.v 0) (.c (.int 0))])) (.cmp .eq (.ix (.v 0) (.c (.int 0))) (.c (.str [])))))) [.ret (.c (.bl false))] [],
    .ret (.and (.call 2 [.ix (.v 0) (.c (.int 0))]) (.and (.isi (.ix (.v 0) (.c (.int 1))) .str) (.cmp .in_ (.ix (.v 0) (.c (.int 1))) (.tup [.c (.str [111, 110, 101]), .c (.str [97, 110, 121])]))))]
/-- is_pattern -/
def b5 : List St := [.if_ (.or (.not (.isi (.v 0) .tuple)) (.or (.cmp .ne (.bi false .len [.v 0]) (.c (.int 2))) (.not (.isi (.ix (.v 0) (.c (.int 1))) .bool)))) [.ret (.c (.bl false))] [],
    .asg (.v 1) (.ix (.v 0) (.c (.int 0))),
    .ret (.and (.isi (.v 1) .tuple) (.and (.cmp .le (.bi false .len [.v 1]) (.c (.int 3))) (.bi false .all [.lc false (.v 2) (.e (.v 1)) [] (.call 4 [.v 2])])))]
/-- first_sight -/
def b6 : List St := [.asg (.v 1) (.ix (.v 0) (.c (.int 0))),
    .asg (.v 2) (.lst true [.bi false .len [.v 1]]),
    .whl 1000 (.and (.cmp .gt (.ix (.v 2) (.neg (.c (.int 1)))) (.c (.int 0))) (.cmp .eq (.ix (.ix (.v 1) (.bin false .sub (.ix (.v 2) (.neg (.c (.int 1)))) (.c (.int 1)))) (.c (.int 1))) (.c (.str [97, 110, 121])))) [.ex (.me .append (.v 2) [.bin false .sub (.ix (.v 2) (.neg (.c (.int 1)))) (.c (.int 1))])],
    .ret (.bi false .tuple [.rev false (.v 2)])]
/-- next_sight -/
def b7 : List St := [.asg (.u [.v 5, .v 6]) (.v 0),
    .asg (.v 3) (.ite (.v 6) (.lst true []) (.lst true [.bi false .len [.v 5]])),
    .for_ (.v 4) (.range [.bin false .sub (.bi false .len [.v 5]) (.c (.int 1)), .neg (.c (.int 1)), .neg (.c (.int 1))]) [.asg (.u [.v 9, .v 10]) (.ix (.v 5) (.v 4)),
    .asg (.v 7) (.and (.cmp .in_ (.v 1) (.v 9)) (.and (.cmp .in_ (.v 4) (.v 2)) (.cmp .eq (.v 10) (.c (.str [97, 110, 121]))))),
    .asg (.v 8) (.and (.cmp .in_ (.v 1) (.v 9)) (.and (.cmp .in_ (.bin false .add (.v 4) (.c (.int 1))) (.v 2)) (.cmp .eq (.v 10) (.c (.str [111, 110, 101]))))),
    .if_ (.or (.v 7) (.or (.v 8) (.and (.cmp .eq (.v 10) (.c (.str [97, 110, 121]))) (.cmp .in_ (.bin false .add (.v 4) (.c (.int 1))) (.v 3))))) [.ex (.me .append (.v 3) [.v 4])] []],
    .ret (.bi false .tuple [.rev false (.v 3)])]
/-- first_trace -/
def b8 : List St := [.asg (.v 1) (.ix (.v 0) (.c (.int 0))),
    .asg (.v 2) (.lst true [.c (.int 0)]),
    .whl 1000 (.and (.cmp .lt (.ix (.v 2) (.neg (.c (.int 1)))) (.bi false .len [.v 1])) (.cmp .eq (.ix (.ix (.v 1) (.ix (.v 2) (.neg (.c (.int 1))))) (.c (.int 1))) (.c (.str [97, 110, 121])))) [.ex (.me .append (.v 2) [.bin false .add (.ix (.v 2) (.neg (.c (.int 1)))) (.c (.int 1))])],
    .ret (.bi false .tuple [.v 2])]
/-- next_trace -/
def b9 : List St := [.asg (.u [.v 4, .v 5]) (.v 0),
    .asg (.v 3) (.ite (.v 5) (.lst true []) (.lst true [.c (.int 0)])),
    .for_ (.u [.v 6, .u [.v 9, .v 10]]) (.enum (.v 4)) [.asg (.v 7) (.and (.cmp .in_ (.v 1) (.v 9)) (.and (.cmp .in_ (.bin false .add (.v 6) (.c (.int 1))) (.v 2)) (.cmp .eq (.v 10) (.c (.str [97, 110, 121]))))),
    .asg (.v 8) (.and (.cmp .in_ (.v 1) (.v 9)) (.and (.cmp .in_ (.v 6) (.v 2)) (.cmp .eq (.v 10) (.c (.str [111, 110, 101]))))),
    .if_ (.or (.v 7) (.or (.v 8) (.and (.cmp .eq (.v 10) (.c (.str [97, 110, 121]))) (.cmp .in_ (.v 6) (.v 3))))) [.ex (.me .append (.v 3) [.bin false .add (.v 6) (.c (.int 1))])] []],
    .ret (.bi false .tuple [.v 3])]
/-- begins_in -/
def b10 : List St := [.asg (.v 2) (.call 6 [.v 0]),
    .for_ (.v 3) (.e (.rev false (.v 1))) [.asg (.v 2) (.call 7 [.v 0, .v 3, .v 2])],
    .ret (.cmp .in_ (.c (.int 0)) (.v 2))]
/-- ends_in -/
def b11 : List St := [.asg (.v 2) (.call 8 [.v 0]),
    .for_ (.v 3) (.e (.v 1)) [.asg (.v 2) (.call 9 [.v 0, .v 3, .v 2])],
    .ret (.cmp .in_ (.bi false .len [.ix (.v 0) (.c (.int 0))]) (.v 2))]
/-- require_pattern -/
def b12 : List St := [.if_ (.not (.call 5 [.v 0])) [.raise 2 []] []]
/-- fits -/
def b13 : List St := [.ex (.call 12 [.v 0]),
    .ex (.call 3 [.v 1]),
    .ret (.call 10 [.tup [.ix (.v 0) (.c (.int 0)), .c (.bl true)], .v 1])]
/-- begins_with -/
def b14 : List St := [.ex (.call 12 [.v 0]),
    .ex (.call 3 [.v 1]),
    .ret (.call 10 [.v 0, .v 1])]
/-- ends_with -/
def b15 : List St := [.ex (.call 12 [.v 0]),
    .ex (.call 3 [.v 1]),
    .ret (.call 11 [.v 0, .v 1])]
/-- _law_start -/
def b16 : List St := [.asg (.v 2) (.ite (.cmp .lt (.v 1) (.bi false .len [.v 0])) (.ix (.v 0) (.v 1)) (.bin false .add (.bin false .mul (.c (.int 29)) (.v 1)) (.c (.int 11)))),
    .asg (.v 3) (.bin false .mod (.bi false .int [.bi false .abs [.v 2]]) (.bin false .pow (.bin false .pow (.c (.int 10)) (.c (.int 58))) (.c (.int 12)))),
    .asg (.v 4) (.bin false .add (.bin false .add (.bin false .add (.bin false .mul (.bin false .mod (.bi false .int [.v 3]) (.c (.int 2147483497))) (.c (.int 41381))) (.bin false .mul (.c (.int 4003)) (.v 1))) (.bin false .mul (.c (.int 13)) (.bi false .int [.cmp .lt (.v 2) (.c (.int 0))]))) (.c (.int 17))),
    .ret (.lst true [.bi false .max [.c (.int 0), .bin false .sub (.v 3) (.bin false .pow (.c (.int 10)) (.c (.int 18)))], .bin false .mod (.bi false .int [.v 4]) (.c (.int 2147483353)), .c (.int 0)])]
/-- _law_throw -/
def b17 : List St := [.if_ (.cmp .gt (.ix (.v 0) (.c (.int 0))) (.c (.int 0))) [.asg (.v 4) (.bin false .mod (.bi false .int [.ix (.v 0) (.c (.int 0))]) (.v 1)),
    .set (.v 0) (.c (.int 0)) (.bin false .fdiv (.ix (.v 0) (.c (.int 0))) (.v 1)),
    .ret (.v 4)] [],
    .set (.v 0) (.c (.int 2)) (.bin false .add (.ix (.v 0) (.c (.int 2))) (.c (.int 1))),
    .asg (.v 2) (.bin false .mod (.bi false .int [.bin false .add (.ix (.v 0) (.c (.int 1))) (.bin false .mul (.c (.int 1000403)) (.ix (.v 0) (.c (.int 2))))]) (.c (.int 2305843009213693951))),
    .asg (.v 3) (.bin false .add (.bin false .mul (.bin false .mod (.bi false .int [.bin false .mul (.v 2) (.v 2)]) (.c (.int 2305843009213693951))) (.v 2)) (.bin false .mul (.c (.int 8111)) (.ix (.v 0) (.c (.int 2))))),
    .asg (.v 3) (.bin false .mod (.bi false .int [.v 3]) (.c (.int 2305843009213693907))),
    .ret (.bin false .mod (.bi false .int [.bin false .fdiv (.v 3) (.c (.int 8192))]) (.v 1))]
/-- _law_pick -/
def b18 : List St := [.ret (.ix (.v 1) (.call 17 [.v 0, .bi false .len [.v 1]]))]
/-- _law_drawn_word -/
def b19 : List St := [.ret (.me .join (.c (.str [])) [.lc false (.v 3) (.range [.call 17 [.v 0, .bin false .add (.v 2) (.c (.int 1))]]) [] (.call 18 [.v 0, .v 1])])]
/-- _law_drawn_items -/
def b20 : List St := [.asg (.v 3) (.lst true []),
    .for_ (.v 4) (.range [.call 17 [.v 0, .bin false .add (.v 2) (.c (.int 1))]]) [.asg (.v 5) (.me .join (.c (.str [])) [.lc false (.v 6) (.e (.v 1)) [.cmp .eq (.call 17 [.v 0, .c (.int 2)]) (.c (.int 0))] (.v 6)]),
    .ex (.me .append (.v 3) [.tup [.ite (.cmp .ne (.v 5) (.c (.str []))) (.v 5) (.call 18 [.v 0, .v 1]), .call 18 [.v 0, .lst false [.c (.str [111, 110, 101]), .c (.str [111, 110, 101]), .c (.str [97, 110, 121])]]]])],
    .ret (.bi false .tuple [.v 3])]
/-- _law_drawn_pattern -/
def b21 : List St := [.ret (.tup [.call 20 [.v 0, .v 1, .call 18 [.v 0, .lst false [.c (.int 0), .c (.int 1), .c (.int 1), .c (.int 2), .c (.int 3)]]], .cmp .eq (.call 17 [.v 0, .c (.int 4)]) (.c (.int 0))])]
/-- _law_fits_in -/
def b22 : List St := [.if_ (.cmp .eq (.v 0) (.tup [])) [.ret (.cmp .eq (.v 1) (.c (.str [])))] [],
    .asg (.u [.v 3, .v 4]) (.ix (.v 0) (.c (.int 0))),
    .asg (.v 2) (.and (.cmp .ne (.v 1) (.c (.str []))) (.cmp .in_ (.ix (.v 1) (.c (.int 0))) (.v 3))),
    .if_ (.cmp .eq (.v 4) (.c (.str [111, 110, 101]))) [.ret (.and (.v 2) (.call 22 [.sl false (.v 0) [.c (.int 1)] [], .sl false (.v 1) [.c (.int 1)] []]))] [],
    .ret (.or (.call 22 [.sl false (.v 0) [.c (.int 1)] [], .v 1]) (.and (.v 2) (.call 22 [.v 0, .sl false (.v 1) [.c (.int 1)] []])))]
/-- _law_begins_in -/
def b23 : List St := [.if_ (.ix (.v 0) (.c (.int 1))) [.ret (.call 22 [.ix (.v 0) (.c (.int 0)), .v 1])] [],
    .ret (.cmp .ne (.lc false (.v 2) (.range [.bin false .add (.bi false .len [.v 1]) (.c (.int 1))]) [.call 22 [.ix (.v 0) (.c (.int 0)), .sl false (.v 1) [] [.v 2]]] (.v 2)) (.lst false []))]
/-- _law_ends_in -/
def b24 : List St := [.if_ (.ix (.v 0) (.c (.int 1))) [.ret (.call 22 [.ix (.v 0) (.c (.int 0)), .v 1])] [],
    .ret (.cmp .ne (.lc false (.v 2) (.range [.bin false .add (.bi false .len [.v 1]) (.c (.int 1))]) [.call 22 [.ix (.v 0) (.c (.int 0)), .sl false (.v 1) [.v 2] []]] (.v 2)) (.lst false []))]
/-- _law_near_text -/
def b26 : List St := [.asg (.v 2) (.c (.str [])),
    .for_ (.u [.v 4, .v 5]) (.e (.ix (.v 1) (.c (.int 0)))) [.asg (.v 2) (.bin false .add (.v 2) (.bin false .mul (.call 18 [.v 0, .v 4]) (.ite (.cmp .eq (.v 5) (.c (.str [111, 110, 101]))) (.c (.int 1)) (.call 17 [.v 0, .c (.int 3)]))))],
    .asg (.u [.v 6, .v 7]) (.tup [.call 19 [.v 0, .c (.str [97, 98, 99]), .c (.int 2)], .call 19 [.v 0, .c (.str [97, 98, 99]), .c (.int 2)]]),
    .asg (.v 3) (.lst false [.v 2, .bin false .add (.v 6) (.v 2), .bin false .add (.v 2) (.v 7), .bin false .add (.bin false .add (.v 6) (.v 2)) (.v 7), .sl false (.v 2) [.c (.int 1)] [], .sl false (.v 2) [] [.neg (.c (.int 1))], .bin false .add (.v 6) (.v 7)]),
    .ret (.call 18 [.v 0, .v 3])]
/-- _law_judged_right -/
def b27 : List St := [.asg (.v 2) (.lst false [.call 13 [.v 0, .v 1], .call 14 [.v 0, .v 1], .call 15 [.v 0, .v 1]]),
    .asg (.v 3) (.lst false [.call 22 [.ix (.v 0) (.c (.int 0)), .v 1], .call 23 [.v 0, .v 1], .call 24 [.v 0, .v 1]]),
    .ret (.cmp .eq (.bi false .repr [.v 2]) (.bi false .repr [.v 3]))]
/-- _law_bad_patterns -/
def b28 : List St := [.asg (.u [.v 4, .v 5]) (.tup [.ix (.v 1) (.c (.int 0)), .call 18 [.v 0, .lst false [.tup [.c (.str [97]), .c (.str [111, 110, 101])], .tup [.c (.str [98, 99]), .c (.str [97, 110, 121])]]]]),
    .asg (.v 2) (.lst false [.c .non, .c (.int 0), .tup [], .lst false [], .dct0 false, .c (.str [97]), .v 4, .tup [.v 4], .tup [.v 4, .c (.int 1)], .tup [.v 4, .c .non], .tup [.v 4, .c (.int 0)], .tup [.bi false .list [.v 4], .c (.bl true)]]),
    .asg (.v 2) (.bin false .add (.v 2) (.lst false [.bi false .list [.v 1], .bin false .add (.v 1) (.tup [.c (.bl true)]), .tup [.bin false .mul (.tup [.v 5]) (.c (.int 4)), .c (.bl false)], .tup [.tup [.v 5, .c .non], .c (.bl true)], .tup [.c .non, .c (.bl false)]])),
    .asg (.v 3) (.lst false [.tup [.c (.str []), .c (.str [111, 110, 101])], .tup [.c (.str [98, 97]), .c (.str [111, 110, 101])], .tup [.c (.str [97, 97]), .c (.str [97, 110, 121])], .tup [.c (.str [65]), .c (.str [97, 110, 121])], .tup [.c (.str [97]), .c (.str [79, 110, 101])], .tup [.c (.str [97]), .c .non], .tup [.c (.str [97])], .c (.str [97, 98])]),
    .asg (.v 2) (.bin false .add (.v 2) (.lc false (.v 6) (.e (.v 3)) [] (.tup [.tup [.v 6], .c (.bl false)]))),
    .asg (.v 3) (.lst false [.tup [.c (.str [97]), .c (.str [111, 110, 101]), .c (.int 1)], .tup [.c (.str [97, 32, 98]), .c (.str [111, 110, 101])], .tup [.tup [.c (.str [97])], .c (.str [111, 110, 101])], .tup [.c .non, .c (.str [97, 110, 121])], .tup [.c (.str [97]), .lst false [.c (.str [97, 110, 121])]], .tup [.c (.str [97, 49]), .c (.str [111, 110, 101])], .lst false [.c (.str [97]), .c (.str [111, 110, 101])]]),
    .asg (.v 2) (.bin false .add (.v 2) (.lc false (.v 6) (.e (.v 3)) [] (.tup [.tup [.v 5, .v 6], .c (.bl true)]))),
    .ret (.bin false .add (.v 2) (.lst false [.tup [.v 5, .c (.bl false)], .tup [.tup [.c (.str [97]), .c (.str [111, 110, 101])], .c (.bl true)], .tup [.c (.bl true), .c (.bl true)]]))]
/-- _law_refused_right -/
def b29 : List St := [.asg (.v 3) (.call 18 [.v 0, .call 28 [.v 0, .v 1]]),
    .asg (.v 4) (.call 18 [.v 0, .lst false [.c .non, .c (.int 0), .c (.str [65]), .c (.str [97, 32, 98]), .bin false .mul (.c (.str [97])) (.c (.int 61)), .lst false [.c (.str [97])], .tup [.c (.str [97])], .c (.str [97, 10]), .dct0 false, .c (.bl true), .c (.str [97, 49])]]),
    .asg (.v 5) (.lst true []),
    .for_ (.u [.v 6, .v 7]) (.e (.tup [.tup [.v 3, .v 2], .tup [.v 3, .v 4], .tup [.v 1, .v 4], .tup [.v 1, .v 2]])) [.ex (.me .append (.v 5) [.told 0 (.call 13 [.v 6, .v 7])]),
    .ex (.me .append (.v 5) [.told 0 (.call 14 [.v 6, .v 7])]),
    .ex (.me .append (.v 5) [.told 0 (.call 15 [.v 6, .v 7])])],
    .if_ (.or (.cmp .ne (.v 5) (.bin false .add (.bin false .add (.bin false .mul (.lst false [.c (.str [98, 111, 111, 107])]) (.c (.int 6))) (.bin false .mul (.lst false [.c (.str [116, 101, 120, 116])]) (.c (.int 3)))) (.bin false .mul (.lst false [.c (.str [114, 101, 116, 117, 114, 110, 101, 100])]) (.c (.int 3))))) (.cmp .isnt (.call 5 [.v 1]) (.c (.bl true)))) [.ret (.c (.bl false))] [],
    .ret (.cmp .eq (.lc false (.v 8) (.e (.call 28 [.v 0, .v 1])) [.cmp .isnt (.call 5 [.v 8]) (.c (.bl false))] (.v 8)) (.lst false []))]
/-- law -/
def b30 : List St := [.for_ (.v 1) (.range [.bi false .max [.c (.int 1), .bi false .min [.c (.int 8), .bi false .len [.v 0]]]]) [.asg (.v 5) (.call 16 [.v 0, .v 1]),
    .for_ (.v 6) (.range [.c (.int 4)]) [.asg (.v 4) (.call 21 [.v 5, .call 18 [.v 5, .lst false [.c (.str [97]), .c (.str [97, 98]), .c (.str [97, 98, 99]), .c (.str [97, 98, 99, 122])]]]),
    .asg (.v 7) (.call 26 [.v 5, .v 4]),
    .asg (.v 8) (.lst false [.v 7, .c (.str []), .call 26 [.v 5, .v 4], .call 19 [.v 5, .c (.str [97, 98, 99]), .c (.int 8)]]),
    .if_ (.cmp .ne (.lc false (.v 9) (.e (.v 8)) [.not (.call 27 [.v 4, .v 9])] (.v 9)) (.lst false [])) [.ret (.c (.bl false))] [],
    .if_ (.not (.call 29 [.v 5, .v 4, .v 7])) [.ret (.c (.bl false))] []]],
    .asg (.v 2) (.tup [.tup [.tup [.c (.str [97, 98, 99, 100, 101, 102, 103, 104, 105, 106, 107, 108, 109, 110, 111, 112, 113, 114, 115, 116, 117, 118, 119, 120, 121, 122]), .c (.str [97, 110, 121])], .tup [.c (.str [122]), .c (.str [111, 110, 101])]], .c (.bl false)]),
    .asg (.v 3) (.lst true [.call 14 [.v 2, .bin false .add (.bin false .mul (.c (.str [97])) (.c (.int 59))) (.c (.str [122]))], .call 14 [.v 2, .bin false .mul (.c (.str [97])) (.c (.int 60))], .call 15 [.v 2, .c (.str [122, 122, 122])]]),
    .if_ (.or (.cmp .ne (.bin false .add (.v 3) (.lst false [.call 13 [.v 2, .bin false .mul (.c (.str [122])) (.c (.int 60))]])) (.lst false [.c (.bl true), .c (.bl false), .c (.bl true), .c (.bl true)])) (.cmp .isnt (.call 15 [.tup [.ix (.v 2) (.c (.int 0)), .c (.bl true)], .c (.str [97, 122])]) (.c (.bl true)))) [.ret (.c (.bl false))] [],
    .asg (.v 3) (.lst true []),
    .for_ (.v 4) (.e (.tup [.tup [.tup [], .c (.bl false)], .tup [.tup [], .c (.bl true)]])) [.ex (.me .append (.v 3) [.lst false [.call 13 [.v 4, .c (.str [])], .call 13 [.v 4, .c (.str [97])], .call 14 [.v 4, .c (.str [97])], .call 15 [.v 4, .c (.str [97, 98])]]])],
    .ret (.cmp .eq (.v 3) (.lst false [.lst false [.c (.bl true), .c (.bl false), .c (.bl true), .c (.bl true)], .lst false [.c (.bl true), .c (.bl false), .c (.bl false), .c (.bl false)]]))]
def Φ : Nat → Option FD
  | 0 => some ⟨1, 2, b0⟩
  | 1 => some ⟨1, 1, b1⟩
  | 2 => some ⟨1, 3, b2⟩
  | 3 => some ⟨1, 1, b3⟩
  | 4 => some ⟨1, 1, b4⟩
  | 5 => some ⟨1, 3, b5⟩
  | 6 => some ⟨1, 3, b6⟩
  | 7 => some ⟨3, 11, b7⟩
  | 8 => some ⟨1, 3, b8⟩
  | 9 => some ⟨3, 11, b9⟩
  | 10 => some ⟨2, 4, b10⟩
  | 11 => some ⟨2, 4, b11⟩
  | 12 => some ⟨1, 1, b12⟩
  | 13 => some ⟨2, 2, b13⟩
  | 14 => some ⟨2, 2, b14⟩
  | 15 => some ⟨2, 2, b15⟩
  | 16 => some ⟨2, 5, b16⟩
  | 17 => some ⟨2, 5, b17⟩
  | 18 => some ⟨2, 2, b18⟩
  | 19 => some ⟨3, 4, b19⟩
  | 20 => some ⟨3, 7, b20⟩
  | 21 => some ⟨2, 2, b21⟩
  | 22 => some ⟨2, 5, b22⟩
  | 23 => some ⟨2, 3, b23⟩
  | 24 => some ⟨2, 3, b24⟩
  | 26 => some ⟨2, 8, b26⟩
  | 27 => some ⟨2, 4, b27⟩
  | 28 => some ⟨2, 7, b28⟩
  | 29 => some ⟨3, 9, b29⟩
  | 30 => some ⟨1, 10, b30⟩
  | _ => none
/-- _law_told -/
def tf (_ : Nat) : R T → R T
  | .ok _ h => .ok (.str [114, 101, 116, 117, 114, 110, 101, 100]) h
  | .exc 1 _ h => .ok (.str [116, 101, 120, 116]) h
  | .exc 2 _ h => .ok (.str [98, 111, 111, 107]) h
  | _ => .bad
end K60
end
/-! part K60p -/
section
set_option Elab.async false
set_option linter.all false
set_option maxRecDepth 100000
set_option maxHeartbeats 0
/-! K60p: each function of law k60 keeps its promise. Printed by gen_tw.py. -/
namespace K60
open PySem PySem.Spec PyProof.Rows L2 Tw Hd
abbrev fr : List PySem.Str := ["abs", "all", "bool", "enumerate", "int", "isinstance", "len", "list", "max", "min", "range", "repr", "str", "tuple", "zip"]
abbrev is : List (PySem.Str × Int) := [("MAX_TEXT", 60), ("MOST_ITEMS", 3)]
abbrev ss : List (PySem.Str × List Nat) := [("LETTERS", [97, 98, 99, 100, 101, 102, 103, 104, 105, 106, 107, 108, 109, 110, 111, 112, 113, 114, 115, 116, 117, 118, 119, 120, 121, 122]), ("ONE", [111, 110, 101]), ("ANY", [97, 110, 121])]
abbrev cs : List (PySem.Str × Nat) := [("MarkError", 0), ("InvalidText", 1), ("InvalidBook", 2)]
abbrev tbl : List (Nat × Bool × PySem.Str) := [(0, false, "is_word"), (1, false, "is_text"), (2, false, "are_ascending"), (3, false, "require_text"), (4, false, "is_item"), (5, false, "is_pattern"), (6, false, "first_sight"), (7, false, "next_sight"), (8, false, "first_trace"), (9, false, "next_trace"), (10, false, "begins_in"), (11, false, "ends_in"), (12, false, "require_pattern"), (13, false, "fits"), (14, false, "begins_with"), (15, false, "ends_with"), (16, false, "_law_start"), (17, false, "_law_throw"), (18, false, "_law_pick"), (19, false, "_law_drawn_word"), (20, false, "_law_drawn_items"), (21, false, "_law_drawn_pattern"), (22, false, "_law_fits_in"), (23, false, "_law_begins_in"), (24, false, "_law_ends_in"), (26, false, "_law_near_text"), (27, true, "_law_judged_right"), (28, false, "_law_bad_patterns"), (29, false, "_law_refused_right"), (30, true, "law")]
abbrev Lk (G : Gx) : Lw := ⟨G, Φ, tf, tbl, fr, is, ss, cs⟩
abbrev N0 : List PySem.Str := ["value", "sign"]
theorem S0 : FnScope N0 ["value"] (defScope s0) := C8.fnScope_by (by decide +kernel)
theorem w0 {G : Gx} {P : Program} {w : World} {mg : PySem.Str → Option Value} {base : Heap} {n : Nat} {f : Addr} {fd : FuncData} (m : Mg G fr is ss cs mg) (hF : ∀ (j : Nat) q, tbl[j]? = some q → Fn1 G P w mg base Φ tf n q.1 q.2.1 q.2.2) (F : FunD G.K "is_word" "is_word" (defArgs s0) (defBody s0) (defScope s0) [] [] f fd) :
  FnX P w G.K mg base false (3 * (n + 1)) f fd ["value"] (spF G Φ tf (n + 1) 0) :=
  fnX_of F S0 rfl rfl rfl fun cdv A outer s H E hc hg hr =>
     have k : Kx (Lk G) _ E n false := kx_def S0 hg hr m hF
    (ss_c (s_ret (te_and k.c (k.isi 5 12 .str (k.v 0)) (te_one (k.bi 1 false .all (ta_c (te_lc (m := false) (own := [("sign", 1)]) k.c rfl (ti_e k.c (k.v 0)) (blkOk_by (N := N0) (sc := defScope s0) (by decide +kernel)) (fun _ _ _ _ _ => (tg_v (i := 1) k.blk.c rfl (by first | exact Or.inl rfl | exact Or.inr rfl))) (fun _ _ _ _ _ => tts_n) (fun _ _ _ _ _ => (te_cmp (op := .in_) k.blk.c (k.blk.v 1) (k.blk.cz 0)))) ta_n)))))
    ss_n)
abbrev N1 : List PySem.Str := ["value"]
theorem S1 : FnScope N1 ["value"] (defScope s1) := C8.fnScope_by (by decide +kernel)
theorem w1 {G : Gx} {P : Program} {w : World} {mg : PySem.Str → Option Value} {base : Heap} {n : Nat} {f : Addr} {fd : FuncData} (m : Mg G fr is ss cs mg) (hF : ∀ (j : Nat) q, tbl[j]? = some q → Fn1 G P w mg base Φ tf n q.1 q.2.1 q.2.2) (F : FunD G.K "is_text" "is_text" (defArgs s1) (defBody s1) (defScope s1) [] [] f fd) :
  FnX P w G.K mg base false (3 * (n + 1)) f fd ["value"] (spF G Φ tf (n + 1) 1) :=
  fnX_of F S1 rfl rfl rfl fun cdv A outer s H E hc hg hr =>
     have k : Kx (Lk G) _ E n false := kx_def S1 hg hr m hF
    (ss_c (s_ret (te_and k.c (k.isi 5 12 .str (k.v 0)) (te_and k.c (te_cmp (op := .le) k.c (k.bi 6 false .len (ta_c (k.v 0) ta_n)) (k.ci 0)) (te_one (k.call 0 (ta_c (k.v 0) ta_n))))))
    ss_n)
abbrev N2 : List PySem.Str := ["signs", "one", "other"]
theorem S2 : FnScope N2 ["signs"] (defScope s2) := C8.fnScope_by (by decide +kernel)
theorem w2 {G : Gx} {P : Program} {w : World} {mg : PySem.Str → Option Value} {base : Heap} {n : Nat} {f : Addr} {fd : FuncData} (m : Mg G fr is ss cs mg) (hF : ∀ (j : Nat) q, tbl[j]? = some q → Fn1 G P w mg base Φ tf n q.1 q.2.1 q.2.2) (F : FunD G.K "are_ascending" "are_ascending" (defArgs s2) (defBody s2) (defScope s2) [] [] f fd) :
  FnX P w G.K mg base false (3 * (n + 1)) f fd ["signs"] (spF G Φ tf (n + 1) 2) :=
  fnX_of F S2 rfl rfl rfl fun cdv A outer s H E hc hg hr =>
     have k : Kx (Lk G) _ E n false := kx_def S2 hg hr m hF
    (ss_c (s_ret (k.bi 1 false .all (ta_c (te_lc (m := false) (own := [("one", 1), ("other", 2)]) k.c rfl (ti_zip k.c rfl (k.m.fr 14 _ rfl) (k.v 0) (te_sl10 (m := false) k.c (k.v 0) te_i)) (blkOk_by (N := N2) (sc := defScope s2) (by decide +kernel)) (fun _ _ _ _ _ => (tg_u k.blk.c (tgs_c (tg_v (i := 1) k.blk.c rfl (by first | exact Or.inl rfl | exact Or.inr rfl)) (tgs_c (tg_v (i := 2) k.blk.c rfl (by first | exact Or.inl rfl | exact Or.inr rfl)) tgs_n)))) (fun _ _ _ _ _ => tts_n) (fun _ _ _ _ _ => (te_cmp (op := .lt) k.blk.c (k.blk.v 1) (k.blk.v 2)))) ta_n)))
    ss_n)
abbrev N3 : List PySem.Str := ["value"]
theorem S3 : FnScope N3 ["value"] (defScope s3) := C8.fnScope_by (by decide +kernel)
theorem w3 {G : Gx} {P : Program} {w : World} {mg : PySem.Str → Option Value} {base : Heap} {n : Nat} {f : Addr} {fd : FuncData} (m : Mg G fr is ss cs mg) (hF : ∀ (j : Nat) q, tbl[j]? = some q → Fn1 G P w mg base Φ tf n q.1 q.2.1 q.2.2) (F : FunD G.K "require_text" "require_text" (defArgs s3) (defBody s3) (defScope s3) [] [] f fd) :
  FnX P w G.K mg base false (3 * (n + 1)) f fd ["value"] (spF G Φ tf (n + 1) 3) :=
  fnX_of F S3 rfl rfl rfl fun cdv A outer s H E hc hg hr =>
     have k : Kx (Lk G) _ E n false := kx_def S3 hg hr m hF
    (ss_c (s_if (tb_not (tb_val k.c (k.call 1 (ta_c (k.v 0) ta_n)) (bv_call _ _))) (ss_c (k.raise tk_def 1)
    ss_n) ss_n)
    ss_n)
abbrev N4 : List PySem.Str := ["value"]
theorem S4 : FnScope N4 ["value"] (defScope s4) := C8.fnScope_by (by decide +kernel)
theorem w4 {G : Gx} {P : Program} {w : World} {mg : PySem.Str → Option Value} {base : Heap} {n : Nat} {f : Addr} {fd : FuncData} (m : Mg G fr is ss cs mg) (hF : ∀ (j : Nat) q, tbl[j]? = some q → Fn1 G P w mg base Φ tf n q.1 q.2.1 q.2.2) (F : FunD G.K "is_item" "is_item" (defArgs s4) (defBody s4) (defScope s4) [] [] f fd) :
  FnX P w G.K mg base false (3 * (n + 1)) f fd ["value"] (spF G Φ tf (n + 1) 4) :=
  fnX_of F S4 rfl rfl rfl fun cdv A outer s H E hc hg hr =>
     have k : Kx (Lk G) _ E n false := kx_def S4 hg hr m hF
    (ss_c (s_if (PW.pt (tw_or (tb_not (tb_val k.c (k.isi 5 13 .tuple (k.v 0)) (bv_isi _ _))) (tw_or (tb_cmp (op := .ne) k.c (k.bi 6 false .len (ta_c (k.v 0) ta_n)) te_i) (tw_or (tb_not (tb_val k.c (k.call 0 (ta_c (te_ix k.c (k.v 0) te_i) ta_n)) (bv_call _ _))) (tw_or1 (tb_cmp (op := .eq) k.c (te_ix k.c (k.v 0) te_i) (k.s []))))))) (ss_c (s_ret te_b)
    ss_n) ss_n)
    (ss_c (s_ret (te_and k.c (k.call 2 (ta_c (te_ix k.c (k.v 0) te_i) ta_n)) (te_and k.c (k.isi 5 12 .str (te_ix k.c (k.v 0) te_i)) (te_one (te_cmp (op := .in_) k.c (te_ix k.c (k.v 0) te_i) (te_t (ta_c (k.cz 1) (ta_c (k.cz 2) ta_n))))))))
    ss_n))
abbrev N5 : List PySem.Str := ["value", "items", "item"]
theorem S5 : FnScope N5 ["value"] (defScope s5) := C8.fnScope_by (by decide +kernel)
theorem w5 {G : Gx} {P : Program} {w : World} {mg : PySem.Str → Option Value} {base : Heap} {n : Nat} {f : Addr} {fd : FuncData} (m : Mg G fr is ss cs mg) (hF : ∀ (j : Nat) q, tbl[j]? = some q → Fn1 G P w mg base Φ tf n q.1 q.2.1 q.2.2) (F : FunD G.K "is_pattern" "is_pattern" (defArgs s5) (defBody s5) (defScope s5) [] [] f fd) :
  FnX P w G.K mg base false (3 * (n + 1)) f fd ["value"] (spF G Φ tf (n + 1) 5) :=
  fnX_of F S5 rfl rfl rfl fun cdv A outer s H E hc hg hr =>
     have k : Kx (Lk G) _ E n false := kx_def S5 hg hr m hF
    (ss_c (s_if (PW.pt (tw_or (tb_not (tb_val k.c (k.isi 5 13 .tuple (k.v 0)) (bv_isi _ _))) (tw_or (tb_cmp (op := .ne) k.c (k.bi 6 false .len (ta_c (k.v 0) ta_n)) te_i) (tw_or1 (tb_not (tb_val k.c (k.isi 5 2 .bool (te_ix k.c (k.v 0) te_i)) (bv_isi _ _))))))) (ss_c (s_ret te_b)
    ss_n) ss_n)
    (ss_c (s_set (i := 1) k.c rfl (by first | exact Or.inl rfl | exact Or.inr rfl) (te_ix k.c (k.v 0) te_i))
    (ss_c (s_ret (te_and k.c (k.isi 5 13 .tuple (k.v 1)) (te_and k.c (te_cmp (op := .le) k.c (k.bi 6 false .len (ta_c (k.v 1) ta_n)) (k.ci 1)) (te_one (k.bi 1 false .all (ta_c (te_lc (m := false) (own := [("item", 2)]) k.c rfl (ti_e k.c (k.v 1)) (blkOk_by (N := N5) (sc := defScope s5) (by decide +kernel)) (fun _ _ _ _ _ => (tg_v (i := 2) k.blk.c rfl (by first | exact Or.inl rfl | exact Or.inr rfl))) (fun _ _ _ _ _ => tts_n) (fun _ _ _ _ _ => (k.blk.call 4 (ta_c (k.blk.v 2) ta_n)))) ta_n))))))
    ss_n)))
abbrev N6 : List PySem.Str := ["pattern", "items", "found"]
theorem S6 : FnScope N6 ["pattern"] (defScope s6) := C8.fnScope_by (by decide +kernel)
theorem w6 {G : Gx} {P : Program} {w : World} {mg : PySem.Str → Option Value} {base : Heap} {n : Nat} {f : Addr} {fd : FuncData} (m : Mg G fr is ss cs mg) (hF : ∀ (j : Nat) q, tbl[j]? = some q → Fn1 G P w mg base Φ tf n q.1 q.2.1 q.2.2) (F : FunD G.K "first_sight" "first_sight" (defArgs s6) (defBody s6) (defScope s6) [] [] f fd) :
  FnX P w G.K mg base false (3 * (n + 1)) f fd ["pattern"] (spF G Φ tf (n + 1) 6) :=
  fnX_of F S6 rfl rfl rfl fun cdv A outer s H E hc hg hr =>
     have k : Kx (Lk G) _ E n false := kx_def S6 hg hr m hF
    (ss_c (s_set (i := 1) k.c rfl (by first | exact Or.inl rfl | exact Or.inr rfl) (te_ix k.c (k.v 0) te_i))
    (ss_c (s_set (i := 2) k.c rfl (by first | exact Or.inl rfl | exact Or.inr rfl) (te_l (m := true) (ta_c (k.bi 6 false .len (ta_c (k.v 1) ta_n)) ta_n)))
    (ss_c (s_whl (n := 1000) k.o (PW.pt (tw_and (tb_cmp (op := .gt) k.c (te_ix k.c (k.v 2) (te_neg te_i)) te_i) (tw_and1 (tb_cmp (op := .eq) k.c (te_ix k.c (te_ix k.c (k.v 1) (te_bin (m := false) (op := .sub) k.c (te_ix k.c (k.v 2) (te_neg te_i)) te_i)) te_i) (k.cz 2))))) (ss_c (s_ex (te_app k.c (k.v 2) (ta_c (te_bin (m := false) (op := .sub) k.c (te_ix k.c (k.v 2) (te_neg te_i)) te_i) ta_n)))
    ss_n))
    (ss_c (s_ret (k.bt 13 false .tuple (ta_c (te_rev (m := false) k.c (k.v 2)) ta_n)))
    ss_n))))
abbrev N7 : List PySem.Str := ["pattern", "letter", "numbers", "found", "at", "items", "whole", "stays", "moves", "letters", "kind"]
theorem S7 : FnScope N7 ["pattern", "letter", "numbers"] (defScope s7) := C8.fnScope_by (by decide +kernel)
theorem w7 {G : Gx} {P : Program} {w : World} {mg : PySem.Str → Option Value} {base : Heap} {n : Nat} {f : Addr} {fd : FuncData} (m : Mg G fr is ss cs mg) (hF : ∀ (j : Nat) q, tbl[j]? = some q → Fn1 G P w mg base Φ tf n q.1 q.2.1 q.2.2) (F : FunD G.K "next_sight" "next_sight" (defArgs s7) (defBody s7) (defScope s7) [] [] f fd) :
  FnX P w G.K mg base false (3 * (n + 1)) f fd ["pattern", "letter", "numbers"] (spF G Φ tf (n + 1) 7) :=
  fnX_of F S7 rfl rfl rfl fun cdv A outer s H E hc hg hr =>
     have k : Kx (Lk G) _ E n false := kx_def S7 hg hr m hF
    (ss_c (s_asg (k.v 0) (tg_u k.c (tgs_c (tg_v (i := 5) k.c rfl (by first | exact Or.inl rfl | exact Or.inr rfl)) (tgs_c (tg_v (i := 6) k.c rfl (by first | exact Or.inl rfl | exact Or.inr rfl)) tgs_n))))
    (ss_c (s_set (i := 3) k.c rfl (by first | exact Or.inl rfl | exact Or.inr rfl) (te_ite (tb_val k.c (k.v 6) (bv_v _)) (te_l (m := true) ta_n) (te_l (m := true) (ta_c (k.bi 6 false .len (ta_c (k.v 5) ta_n)) ta_n))))
    (ss_c (s_for k.c k.o (ti_r3 rfl (k.m.fr 10 _ rfl) (ta_c (te_bin (m := false) (op := .sub) k.c (k.bi 6 false .len (ta_c (k.v 5) ta_n)) te_i) (ta_c (te_neg te_i) (ta_c (te_neg te_i) ta_n)))) (tg_v (i := 4) k.c rfl (by first | exact Or.inl rfl | exact Or.inr rfl)) (ss_c (s_asg (te_ix k.c (k.v 5) (k.v 4)) (tg_u k.c (tgs_c (tg_v (i := 9) k.c rfl (by first | exact Or.inl rfl | exact Or.inr rfl)) (tgs_c (tg_v (i := 10) k.c rfl (by first | exact Or.inl rfl | exact Or.inr rfl)) tgs_n))))
    (ss_c (s_set (i := 7) k.c rfl (by first | exact Or.inl rfl | exact Or.inr rfl) (te_and k.c (te_cmp (op := .in_) k.c (k.v 1) (k.v 9)) (te_and k.c (te_cmp (op := .in_) k.c (k.v 4) (k.v 2)) (te_one (te_cmp (op := .eq) k.c (k.v 10) (k.cz 2))))))
    (ss_c (s_set (i := 8) k.c rfl (by first | exact Or.inl rfl | exact Or.inr rfl) (te_and k.c (te_cmp (op := .in_) k.c (k.v 1) (k.v 9)) (te_and k.c (te_cmp (op := .in_) k.c (te_bin (m := false) (op := .add) k.c (k.v 4) te_i) (k.v 2)) (te_one (te_cmp (op := .eq) k.c (k.v 10) (k.cz 1))))))
    (ss_c (s_if (PW.pt (tw_or (tb_val k.c (k.v 7) (bv_v _)) (tw_or (tb_val k.c (k.v 8) (bv_v _)) (tw_or1 (PW.pt (tw_and (tb_cmp (op := .eq) k.c (k.v 10) (k.cz 2)) (tw_and1 (tb_cmp (op := .in_) k.c (te_bin (m := false) (op := .add) k.c (k.v 4) te_i) (k.v 3))))))))) (ss_c (s_ex (te_app k.c (k.v 3) (ta_c (k.v 4) ta_n)))
    ss_n) ss_n)
    ss_n)))))
    (ss_c (s_ret (k.bt 13 false .tuple (ta_c (te_rev (m := false) k.c (k.v 3)) ta_n)))
    ss_n))))
abbrev N8 : List PySem.Str := ["pattern", "items", "found"]
theorem S8 : FnScope N8 ["pattern"] (defScope s8) := C8.fnScope_by (by decide +kernel)
theorem w8 {G : Gx} {P : Program} {w : World} {mg : PySem.Str → Option Value} {base : Heap} {n : Nat} {f : Addr} {fd : FuncData} (m : Mg G fr is ss cs mg) (hF : ∀ (j : Nat) q, tbl[j]? = some q → Fn1 G P w mg base Φ tf n q.1 q.2.1 q.2.2) (F : FunD G.K "first_trace" "first_trace" (defArgs s8) (defBody s8) (defScope s8) [] [] f fd) :
  FnX P w G.K mg base false (3 * (n + 1)) f fd ["pattern"] (spF G Φ tf (n + 1) 8) :=
  fnX_of F S8 rfl rfl rfl fun cdv A outer s H E hc hg hr =>
     have k : Kx (Lk G) _ E n false := kx_def S8 hg hr m hF
    (ss_c (s_set (i := 1) k.c rfl (by first | exact Or.inl rfl | exact Or.inr rfl) (te_ix k.c (k.v 0) te_i))
    (ss_c (s_set (i := 2) k.c rfl (by first | exact Or.inl rfl | exact Or.inr rfl) (te_l (m := true) (ta_c te_i ta_n)))
    (ss_c (s_whl (n := 1000) k.o (PW.pt (tw_and (tb_cmp (op := .lt) k.c (te_ix k.c (k.v 2) (te_neg te_i)) (k.bi 6 false .len (ta_c (k.v 1) ta_n))) (tw_and1 (tb_cmp (op := .eq) k.c (te_ix k.c (te_ix k.c (k.v 1) (te_ix k.c (k.v 2) (te_neg te_i))) te_i) (k.cz 2))))) (ss_c (s_ex (te_app k.c (k.v 2) (ta_c (te_bin (m := false) (op := .add) k.c (te_ix k.c (k.v 2) (te_neg te_i)) te_i) ta_n)))
    ss_n))
    (ss_c (s_ret (k.bt 13 false .tuple (ta_c (k.v 2) ta_n)))
    ss_n))))
abbrev N9 : List PySem.Str := ["pattern", "letter", "numbers", "found", "items", "whole", "at", "stays", "moves", "letters", "kind"]
theorem S9 : FnScope N9 ["pattern", "letter", "numbers"] (defScope s9) := C8.fnScope_by (by decide +kernel)
theorem w9 {G : Gx} {P : Program} {w : World} {mg : PySem.Str → Option Value} {base : Heap} {n : Nat} {f : Addr} {fd : FuncData} (m : Mg G fr is ss cs mg) (hF : ∀ (j : Nat) q, tbl[j]? = some q → Fn1 G P w mg base Φ tf n q.1 q.2.1 q.2.2) (F : FunD G.K "next_trace" "next_trace" (defArgs s9) (defBody s9) (defScope s9) [] [] f fd) :
  FnX P w G.K mg base false (3 * (n + 1)) f fd ["pattern", "letter", "numbers"] (spF G Φ tf (n + 1) 9) :=
  fnX_of F S9 rfl rfl rfl fun cdv A outer s H E hc hg hr =>
     have k : Kx (Lk G) _ E n false := kx_def S9 hg hr m hF
    (ss_c (s_asg (k.v 0) (tg_u k.c (tgs_c (tg_v (i := 4) k.c rfl (by first | exact Or.inl rfl | exact Or.inr rfl)) (tgs_c (tg_v (i := 5) k.c rfl (by first | exact Or.inl rfl | exact Or.inr rfl)) tgs_n))))
    (ss_c (s_set (i := 3) k.c rfl (by first | exact Or.inl rfl | exact Or.inr rfl) (te_ite (tb_val k.c (k.v 5) (bv_v _)) (te_l (m := true) ta_n) (te_l (m := true) (ta_c te_i ta_n))))
    (ss_c (s_for k.c k.o (ti_enum k.c rfl (k.m.fr 3 _ rfl) (k.v 4)) (tg_u k.c (tgs_c (tg_v (i := 6) k.c rfl (by first | exact Or.inl rfl | exact Or.inr rfl)) (tgs_c (tg_u k.c (tgs_c (tg_v (i := 9) k.c rfl (by first | exact Or.inl rfl | exact Or.inr rfl)) (tgs_c (tg_v (i := 10) k.c rfl (by first | exact Or.inl rfl | exact Or.inr rfl)) tgs_n))) tgs_n))) (ss_c (s_set (i := 7) k.c rfl (by first | exact Or.inl rfl | exact Or.inr rfl) (te_and k.c (te_cmp (op := .in_) k.c (k.v 1) (k.v 9)) (te_and k.c (te_cmp (op := .in_) k.c (te_bin (m := false) (op := .add) k.c (k.v 6) te_i) (k.v 2)) (te_one (te_cmp (op := .eq) k.c (k.v 10) (k.cz 2))))))
    (ss_c (s_set (i := 8) k.c rfl (by first | exact Or.inl rfl | exact Or.inr rfl) (te_and k.c (te_cmp (op := .in_) k.c (k.v 1) (k.v 9)) (te_and k.c (te_cmp (op := .in_) k.c (k.v 6) (k.v 2)) (te_one (te_cmp (op := .eq) k.c (k.v 10) (k.cz 1))))))
    (ss_c (s_if (PW.pt (tw_or (tb_val k.c (k.v 7) (bv_v _)) (tw_or (tb_val k.c (k.v 8) (bv_v _)) (tw_or1 (PW.pt (tw_and (tb_cmp (op := .eq) k.c (k.v 10) (k.cz 2)) (tw_and1 (tb_cmp (op := .in_) k.c (k.v 6) (k.v 3))))))))) (ss_c (s_ex (te_app k.c (k.v 3) (ta_c (te_bin (m := false) (op := .add) k.c (k.v 6) te_i) ta_n)))
    ss_n) ss_n)
    ss_n))))
    (ss_c (s_ret (k.bt 13 false .tuple (ta_c (k.v 3) ta_n)))
    ss_n))))
abbrev N10 : List PySem.Str := ["pattern", "text", "numbers", "letter"]
theorem S10 : FnScope N10 ["pattern", "text"] (defScope s10) := C8.fnScope_by (by decide +kernel)
theorem w10 {G : Gx} {P : Program} {w : World} {mg : PySem.Str → Option Value} {base : Heap} {n : Nat} {f : Addr} {fd : FuncData} (m : Mg G fr is ss cs mg) (hF : ∀ (j : Nat) q, tbl[j]? = some q → Fn1 G P w mg base Φ tf n q.1 q.2.1 q.2.2) (F : FunD G.K "begins_in" "begins_in" (defArgs s10) (defBody s10) (defScope s10) [] [] f fd) :
  FnX P w G.K mg base false (3 * (n + 1)) f fd ["pattern", "text"] (spF G Φ tf (n + 1) 10) :=
  fnX_of F S10 rfl rfl rfl fun cdv A outer s H E hc hg hr =>
     have k : Kx (Lk G) _ E n false := kx_def S10 hg hr m hF
    (ss_c (s_set (i := 2) k.c rfl (by first | exact Or.inl rfl | exact Or.inr rfl) (k.call 6 (ta_c (k.v 0) ta_n)))
    (ss_c (s_for k.c k.o (ti_e k.c (te_rev (m := false) k.c (k.v 1))) (tg_v (i := 3) k.c rfl (by first | exact Or.inl rfl | exact Or.inr rfl)) (ss_c (s_set (i := 2) k.c rfl (by first | exact Or.inl rfl | exact Or.inr rfl) (k.call 7 (ta_c (k.v 0) (ta_c (k.v 3) (ta_c (k.v 2) ta_n)))))
    ss_n))
    (ss_c (s_ret (te_cmp (op := .in_) k.c te_i (k.v 2)))
    ss_n)))
abbrev N11 : List PySem.Str := ["pattern", "text", "numbers", "letter"]
theorem S11 : FnScope N11 ["pattern", "text"] (defScope s11) := C8.fnScope_by (by decide +kernel)
theorem w11 {G : Gx} {P : Program} {w : World} {mg : PySem.Str → Option Value} {base : Heap} {n : Nat} {f : Addr} {fd : FuncData} (m : Mg G fr is ss cs mg) (hF : ∀ (j : Nat) q, tbl[j]? = some q → Fn1 G P w mg base Φ tf n q.1 q.2.1 q.2.2) (F : FunD G.K "ends_in" "ends_in" (defArgs s11) (defBody s11) (defScope s11) [] [] f fd) :
  FnX P w G.K mg base false (3 * (n + 1)) f fd ["pattern", "text"] (spF G Φ tf (n + 1) 11) :=
  fnX_of F S11 rfl rfl rfl fun cdv A outer s H E hc hg hr =>
     have k : Kx (Lk G) _ E n false := kx_def S11 hg hr m hF
    (ss_c (s_set (i := 2) k.c rfl (by first | exact Or.inl rfl | exact Or.inr rfl) (k.call 8 (ta_c (k.v 0) ta_n)))
    (ss_c (s_for k.c k.o (ti_e k.c (k.v 1)) (tg_v (i := 3) k.c rfl (by first | exact Or.inl rfl | exact Or.inr rfl)) (ss_c (s_set (i := 2) k.c rfl (by first | exact Or.inl rfl | exact Or.inr rfl) (k.call 9 (ta_c (k.v 0) (ta_c (k.v 3) (ta_c (k.v 2) ta_n)))))
    ss_n))
    (ss_c (s_ret (te_cmp (op := .in_) k.c (k.bi 6 false .len (ta_c (te_ix k.c (k.v 0) te_i) ta_n)) (k.v 2)))
    ss_n)))
abbrev N12 : List PySem.Str := ["value"]
theorem S12 : FnScope N12 ["value"] (defScope s12) := C8.fnScope_by (by decide +kernel)
theorem w12 {G : Gx} {P : Program} {w : World} {mg : PySem.Str → Option Value} {base : Heap} {n : Nat} {f : Addr} {fd : FuncData} (m : Mg G fr is ss cs mg) (hF : ∀ (j : Nat) q, tbl[j]? = some q → Fn1 G P w mg base Φ tf n q.1 q.2.1 q.2.2) (F : FunD G.K "require_pattern" "require_pattern" (defArgs s12) (defBody s12) (defScope s12) [] [] f fd) :
  FnX P w G.K mg base false (3 * (n + 1)) f fd ["value"] (spF G Φ tf (n + 1) 12) :=
  fnX_of F S12 rfl rfl rfl fun cdv A outer s H E hc hg hr =>
     have k : Kx (Lk G) _ E n false := kx_def S12 hg hr m hF
    (ss_c (s_if (tb_not (tb_val k.c (k.call 5 (ta_c (k.v 0) ta_n)) (bv_call _ _))) (ss_c (k.raise tk_def 2)
    ss_n) ss_n)
    ss_n)
abbrev N13 : List PySem.Str := ["pattern", "text"]
theorem S13 : FnScope N13 ["pattern", "text"] (defScope s13) := C8.fnScope_by (by decide +kernel)
theorem w13 {G : Gx} {P : Program} {w : World} {mg : PySem.Str → Option Value} {base : Heap} {n : Nat} {f : Addr} {fd : FuncData} (m : Mg G fr is ss cs mg) (hF : ∀ (j : Nat) q, tbl[j]? = some q → Fn1 G P w mg base Φ tf n q.1 q.2.1 q.2.2) (F : FunD G.K "fits" "fits" (defArgs s13) (defBody s13) (defScope s13) [] [] f fd) :
  FnX P w G.K mg base false (3 * (n + 1)) f fd ["pattern", "text"] (spF G Φ tf (n + 1) 13) :=
  fnX_of F S13 rfl rfl rfl fun cdv A outer s H E hc hg hr =>
     have k : Kx (Lk G) _ E n false := kx_def S13 hg hr m hF
    (ss_c (s_ex (k.call 12 (ta_c (k.v 0) ta_n)))
    (ss_c (s_ex (k.call 3 (ta_c (k.v 1) ta_n)))
    (ss_c (s_ret (k.call 10 (ta_c (te_t (ta_c (te_ix k.c (k.v 0) te_i) (ta_c te_b ta_n))) (ta_c (k.v 1) ta_n))))
    ss_n)))
abbrev N14 : List PySem.Str := ["pattern", "text"]
theorem S14 : FnScope N14 ["pattern", "text"] (defScope s14) := C8.fnScope_by (by decide +kernel)
theorem w14 {G : Gx} {P : Program} {w : World} {mg : PySem.Str → Option Value} {base : Heap} {n : Nat} {f : Addr} {fd : FuncData} (m : Mg G fr is ss cs mg) (hF : ∀ (j : Nat) q, tbl[j]? = some q → Fn1 G P w mg base Φ tf n q.1 q.2.1 q.2.2) (F : FunD G.K "begins_with" "begins_with" (defArgs s14) (defBody s14) (defScope s14) [] [] f fd) :
  FnX P w G.K mg base false (3 * (n + 1)) f fd ["pattern", "text"] (spF G Φ tf (n + 1) 14) :=
  fnX_of F S14 rfl rfl rfl fun cdv A outer s H E hc hg hr =>
     have k : Kx (Lk G) _ E n false := kx_def S14 hg hr m hF
    (ss_c (s_ex (k.call 12 (ta_c (k.v 0) ta_n)))
    (ss_c (s_ex (k.call 3 (ta_c (k.v 1) ta_n)))
    (ss_c (s_ret (k.call 10 (ta_c (k.v 0) (ta_c (k.v 1) ta_n))))
    ss_n)))
abbrev N15 : List PySem.Str := ["pattern", "text"]
theorem S15 : FnScope N15 ["pattern", "text"] (defScope s15) := C8.fnScope_by (by decide +kernel)
theorem w15 {G : Gx} {P : Program} {w : World} {mg : PySem.Str → Option Value} {base : Heap} {n : Nat} {f : Addr} {fd : FuncData} (m : Mg G fr is ss cs mg) (hF : ∀ (j : Nat) q, tbl[j]? = some q → Fn1 G P w mg base Φ tf n q.1 q.2.1 q.2.2) (F : FunD G.K "ends_with" "ends_with" (defArgs s15) (defBody s15) (defScope s15) [] [] f fd) :
  FnX P w G.K mg base false (3 * (n + 1)) f fd ["pattern", "text"] (spF G Φ tf (n + 1) 15) :=
  fnX_of F S15 rfl rfl rfl fun cdv A outer s H E hc hg hr =>
     have k : Kx (Lk G) _ E n false := kx_def S15 hg hr m hF
    (ss_c (s_ex (k.call 12 (ta_c (k.v 0) ta_n)))
    (ss_c (s_ex (k.call 3 (ta_c (k.v 1) ta_n)))
    (ss_c (s_ret (k.call 11 (ta_c (k.v 0) (ta_c (k.v 1) ta_n))))
    ss_n)))
abbrev N16 : List PySem.Str := ["_law_script", "_law_at", "_law_cell", "_law_great", "_law_mixed"]
theorem S16 : FnScope N16 ["_law_script", "_law_at"] (defScope s16) := C8.fnScope_by (by decide +kernel)
theorem w16 {G : Gx} {P : Program} {w : World} {mg : PySem.Str → Option Value} {base : Heap} {n : Nat} {f : Addr} {fd : FuncData} (m : Mg G fr is ss cs mg) (hF : ∀ (j : Nat) q, tbl[j]? = some q → Fn1 G P w mg base Φ tf n q.1 q.2.1 q.2.2) (F : FunD G.K "_law_start" "_law_start" (defArgs s16) (defBody s16) (defScope s16) [] [] f fd) :
  FnX P w G.K mg base false (3 * (n + 1)) f fd ["_law_script", "_law_at"] (spF G Φ tf (n + 1) 16) :=
  fnX_of F S16 rfl rfl rfl fun cdv A outer s H E hc hg hr =>
     have k : Kx (Lk G) _ E n false := kx_def S16 hg hr m hF
    (ss_c (s_set (i := 2) k.c rfl (by first | exact Or.inl rfl | exact Or.inr rfl) (te_ite (tb_cmp (op := .lt) k.c (k.v 1) (k.bi 6 false .len (ta_c (k.v 0) ta_n))) (te_ix k.c (k.v 0) (k.v 1)) (te_bin (m := false) (op := .add) k.c (te_bin (m := false) (op := .mul) k.c te_i (k.v 1)) te_i)))
    (ss_c (s_set (i := 3) k.c rfl (by first | exact Or.inl rfl | exact Or.inr rfl) (te_bin (m := false) (op := .mod) k.c (k.bt 4 false .int (ta_c (k.bi 0 false .abs (ta_c (k.v 2) ta_n)) ta_n)) (te_bin (m := false) (op := .pow) k.c (te_bin (m := false) (op := .pow) k.c te_i te_i) te_i)))
    (ss_c (s_set (i := 4) k.c rfl (by first | exact Or.inl rfl | exact Or.inr rfl) (te_bin (m := false) (op := .add) k.c (te_bin (m := false) (op := .add) k.c (te_bin (m := false) (op := .add) k.c (te_bin (m := false) (op := .mul) k.c (te_bin (m := false) (op := .mod) k.c (k.bt 4 false .int (ta_c (k.v 3) ta_n)) te_i) te_i) (te_bin (m := false) (op := .mul) k.c te_i (k.v 1))) (te_bin (m := false) (op := .mul) k.c te_i (k.bt 4 false .int (ta_c (te_cmp (op := .lt) k.c (k.v 2) te_i) ta_n)))) te_i))
    (ss_c (s_ret (te_l (m := true) (ta_c (k.bi 8 false .max (ta_c te_i (ta_c (te_bin (m := false) (op := .sub) k.c (k.v 3) (te_bin (m := false) (op := .pow) k.c te_i te_i)) ta_n))) (ta_c (te_bin (m := false) (op := .mod) k.c (k.bt 4 false .int (ta_c (k.v 4) ta_n)) te_i) (ta_c te_i ta_n)))))
    ss_n))))
abbrev N17 : List PySem.Str := ["_law_bag", "_law_total", "_law_one", "_law_two", "_law_found"]
theorem S17 : FnScope N17 ["_law_bag", "_law_total"] (defScope s17) := C8.fnScope_by (by decide +kernel)
theorem w17 {G : Gx} {P : Program} {w : World} {mg : PySem.Str → Option Value} {base : Heap} {n : Nat} {f : Addr} {fd : FuncData} (m : Mg G fr is ss cs mg) (hF : ∀ (j : Nat) q, tbl[j]? = some q → Fn1 G P w mg base Φ tf n q.1 q.2.1 q.2.2) (F : FunD G.K "_law_throw" "_law_throw" (defArgs s17) (defBody s17) (defScope s17) [] [] f fd) :
  FnX P w G.K mg base false (3 * (n + 1)) f fd ["_law_bag", "_law_total"] (spF G Φ tf (n + 1) 17) :=
  fnX_of F S17 rfl rfl rfl fun cdv A outer s H E hc hg hr =>
     have k : Kx (Lk G) _ E n false := kx_def S17 hg hr m hF
    (ss_c (s_if (tb_cmp (op := .gt) k.c (te_ix k.c (k.v 0) te_i) te_i) (ss_c (s_set (i := 4) k.c rfl (by first | exact Or.inl rfl | exact Or.inr rfl) (te_bin (m := false) (op := .mod) k.c (k.bt 4 false .int (ta_c (te_ix k.c (k.v 0) te_i) ta_n)) (k.v 1)))
    (ss_c (s_sto (k.v 0) te_i (te_bin (m := false) (op := .fdiv) k.c (te_ix k.c (k.v 0) te_i) (k.v 1)))
    (ss_c (s_ret (k.v 4))
    ss_n))) ss_n)
    (ss_c (s_sto (k.v 0) te_i (te_bin (m := false) (op := .add) k.c (te_ix k.c (k.v 0) te_i) te_i))
    (ss_c (s_set (i := 2) k.c rfl (by first | exact Or.inl rfl | exact Or.inr rfl) (te_bin (m := false) (op := .mod) k.c (k.bt 4 false .int (ta_c (te_bin (m := false) (op := .add) k.c (te_ix k.c (k.v 0) te_i) (te_bin (m := false) (op := .mul) k.c te_i (te_ix k.c (k.v 0) te_i))) ta_n)) te_i))
    (ss_c (s_set (i := 3) k.c rfl (by first | exact Or.inl rfl | exact Or.inr rfl) (te_bin (m := false) (op := .add) k.c (te_bin (m := false) (op := .mul) k.c (te_bin (m := false) (op := .mod) k.c (k.bt 4 false .int (ta_c (te_bin (m := false) (op := .mul) k.c (k.v 2) (k.v 2)) ta_n)) te_i) (k.v 2)) (te_bin (m := false) (op := .mul) k.c te_i (te_ix k.c (k.v 0) te_i))))
    (ss_c (s_set (i := 3) k.c rfl (by first | exact Or.inl rfl | exact Or.inr rfl) (te_bin (m := false) (op := .mod) k.c (k.bt 4 false .int (ta_c (k.v 3) ta_n)) te_i))
    (ss_c (s_ret (te_bin (m := false) (op := .mod) k.c (k.bt 4 false .int (ta_c (te_bin (m := false) (op := .fdiv) k.c (k.v 3) te_i) ta_n)) (k.v 1)))
    ss_n))))))
abbrev N18 : List PySem.Str := ["_law_bag", "_law_items"]
theorem S18 : FnScope N18 ["_law_bag", "_law_items"] (defScope s18) := C8.fnScope_by (by decide +kernel)
theorem w18 {G : Gx} {P : Program} {w : World} {mg : PySem.Str → Option Value} {base : Heap} {n : Nat} {f : Addr} {fd : FuncData} (m : Mg G fr is ss cs mg) (hF : ∀ (j : Nat) q, tbl[j]? = some q → Fn1 G P w mg base Φ tf n q.1 q.2.1 q.2.2) (F : FunD G.K "_law_pick" "_law_pick" (defArgs s18) (defBody s18) (defScope s18) [] [] f fd) :
  FnX P w G.K mg base false (3 * (n + 1)) f fd ["_law_bag", "_law_items"] (spF G Φ tf (n + 1) 18) :=
  fnX_of F S18 rfl rfl rfl fun cdv A outer s H E hc hg hr =>
     have k : Kx (Lk G) _ E n false := kx_def S18 hg hr m hF
    (ss_c (s_ret (te_ix k.c (k.v 1) (k.call 17 (ta_c (k.v 0) (ta_c (k.bi 6 false .len (ta_c (k.v 1) ta_n)) ta_n)))))
    ss_n)
abbrev N19 : List PySem.Str := ["_law_bag", "_law_signs", "_law_most", "_law_turn"]
theorem S19 : FnScope N19 ["_law_bag", "_law_signs", "_law_most"] (defScope s19) := C8.fnScope_by (by decide +kernel)
theorem w19 {G : Gx} {P : Program} {w : World} {mg : PySem.Str → Option Value} {base : Heap} {n : Nat} {f : Addr} {fd : FuncData} (m : Mg G fr is ss cs mg) (hF : ∀ (j : Nat) q, tbl[j]? = some q → Fn1 G P w mg base Φ tf n q.1 q.2.1 q.2.2) (F : FunD G.K "_law_drawn_word" "_law_drawn_word" (defArgs s19) (defBody s19) (defScope s19) [] [] f fd) :
  FnX P w G.K mg base false (3 * (n + 1)) f fd ["_law_bag", "_law_signs", "_law_most"] (spF G Φ tf (n + 1) 19) :=
  fnX_of F S19 rfl rfl rfl fun cdv A outer s H E hc hg hr =>
     have k : Kx (Lk G) _ E n false := kx_def S19 hg hr m hF
    (ss_c (s_ret (te_join k.c (k.s []) (ta_c (te_lc (m := false) (own := [("_law_turn", 3)]) k.c rfl (ti_r1 rfl (k.m.fr 10 _ rfl) (ta_c (k.call 17 (ta_c (k.v 0) (ta_c (te_bin (m := false) (op := .add) k.c (k.v 2) te_i) ta_n))) ta_n)) (blkOk_by (N := N19) (sc := defScope s19) (by decide +kernel)) (fun _ _ _ _ _ => (tg_v (i := 3) k.blk.c rfl (by first | exact Or.inl rfl | exact Or.inr rfl))) (fun _ _ _ _ _ => tts_n) (fun _ _ _ _ _ => (k.blk.call 18 (ta_c (k.blk.v 0) (ta_c (k.blk.v 1) ta_n))))) ta_n)))
    ss_n)
abbrev N20 : List PySem.Str := ["_law_bag", "_law_signs", "_law_most", "_law_found", "_law_turn", "_law_some", "_law_sign"]
theorem S20 : FnScope N20 ["_law_bag", "_law_signs", "_law_most"] (defScope s20) := C8.fnScope_by (by decide +kernel)
theorem w20 {G : Gx} {P : Program} {w : World} {mg : PySem.Str → Option Value} {base : Heap} {n : Nat} {f : Addr} {fd : FuncData} (m : Mg G fr is ss cs mg) (hF : ∀ (j : Nat) q, tbl[j]? = some q → Fn1 G P w mg base Φ tf n q.1 q.2.1 q.2.2) (F : FunD G.K "_law_drawn_items" "_law_drawn_items" (defArgs s20) (defBody s20) (defScope s20) [] [] f fd) :
  FnX P w G.K mg base false (3 * (n + 1)) f fd ["_law_bag", "_law_signs", "_law_most"] (spF G Φ tf (n + 1) 20) :=
  fnX_of F S20 rfl rfl rfl fun cdv A outer s H E hc hg hr =>
     have k : Kx (Lk G) _ E n false := kx_def S20 hg hr m hF
    (ss_c (s_set (i := 3) k.c rfl (by first | exact Or.inl rfl | exact Or.inr rfl) (te_l (m := true) ta_n))
    (ss_c (s_for k.c k.o (ti_r1 rfl (k.m.fr 10 _ rfl) (ta_c (k.call 17 (ta_c (k.v 0) (ta_c (te_bin (m := false) (op := .add) k.c (k.v 2) te_i) ta_n))) ta_n)) (tg_v (i := 4) k.c rfl (by first | exact Or.inl rfl | exact Or.inr rfl)) (ss_c (s_set (i := 5) k.c rfl (by first | exact Or.inl rfl | exact Or.inr rfl) (te_join k.c (k.s []) (ta_c (te_lc (m := false) (own := [("_law_sign", 6)]) k.c rfl (ti_e k.c (k.v 1)) (blkOk_by (N := N20) (sc := defScope s20) (by decide +kernel)) (fun _ _ _ _ _ => (tg_v (i := 6) k.blk.c rfl (by first | exact Or.inl rfl | exact Or.inr rfl))) (fun _ _ _ _ _ => (tts_1 (tb_cmp (op := .eq) k.blk.c (k.blk.call 17 (ta_c (k.blk.v 0) (ta_c te_i ta_n))) te_i))) (fun _ _ _ _ _ => (k.blk.v 6))) ta_n)))
    (ss_c (s_ex (te_app k.c (k.v 3) (ta_c (te_t (ta_c (te_ite (tb_cmp (op := .ne) k.c (k.v 5) (k.s [])) (k.v 5) (k.call 18 (ta_c (k.v 0) (ta_c (k.v 1) ta_n)))) (ta_c (k.call 18 (ta_c (k.v 0) (ta_c (te_l (m := false) (ta_c (k.s [111, 110, 101]) (ta_c (k.s [111, 110, 101]) (ta_c (k.s [97, 110, 121]) ta_n)))) ta_n))) ta_n))) ta_n)))
    ss_n)))
    (ss_c (s_ret (k.bt 13 false .tuple (ta_c (k.v 3) ta_n)))
    ss_n)))
abbrev N21 : List PySem.Str := ["_law_bag", "_law_signs"]
theorem S21 : FnScope N21 ["_law_bag", "_law_signs"] (defScope s21) := C8.fnScope_by (by decide +kernel)
theorem w21 {G : Gx} {P : Program} {w : World} {mg : PySem.Str → Option Value} {base : Heap} {n : Nat} {f : Addr} {fd : FuncData} (m : Mg G fr is ss cs mg) (hF : ∀ (j : Nat) q, tbl[j]? = some q → Fn1 G P w mg base Φ tf n q.1 q.2.1 q.2.2) (F : FunD G.K "_law_drawn_pattern" "_law_drawn_pattern" (defArgs s21) (defBody s21) (defScope s21) [] [] f fd) :
  FnX P w G.K mg base false (3 * (n + 1)) f fd ["_law_bag", "_law_signs"] (spF G Φ tf (n + 1) 21) :=
  fnX_of F S21 rfl rfl rfl fun cdv A outer s H E hc hg hr =>
     have k : Kx (Lk G) _ E n false := kx_def S21 hg hr m hF
    (ss_c (s_ret (te_t (ta_c (k.call 20 (ta_c (k.v 0) (ta_c (k.v 1) (ta_c (k.call 18 (ta_c (k.v 0) (ta_c (te_l (m := false) (ta_c te_i (ta_c te_i (ta_c te_i (ta_c te_i (ta_c te_i ta_n)))))) ta_n))) ta_n)))) (ta_c (te_cmp (op := .eq) k.c (k.call 17 (ta_c (k.v 0) (ta_c te_i ta_n))) te_i) ta_n))))
    ss_n)
abbrev N22 : List PySem.Str := ["_law_items", "_law_one", "_law_is_here", "_law_signs", "_law_kind"]
theorem S22 : FnScope N22 ["_law_items", "_law_one"] (defScope s22) := C8.fnScope_by (by decide +kernel)
theorem w22 {G : Gx} {P : Program} {w : World} {mg : PySem.Str → Option Value} {base : Heap} {n : Nat} {f : Addr} {fd : FuncData} (m : Mg G fr is ss cs mg) (hF : ∀ (j : Nat) q, tbl[j]? = some q → Fn1 G P w mg base Φ tf n q.1 q.2.1 q.2.2) (F : FunD G.K "_law_fits_in" "_law_fits_in" (defArgs s22) (defBody s22) (defScope s22) [] [] f fd) :
  FnX P w G.K mg base false (3 * (n + 1)) f fd ["_law_items", "_law_one"] (spF G Φ tf (n + 1) 22) :=
  fnX_of F S22 rfl rfl rfl fun cdv A outer s H E hc hg hr =>
     have k : Kx (Lk G) _ E n false := kx_def S22 hg hr m hF
    (ss_c (s_if (tb_cmp (op := .eq) k.c (k.v 0) (te_t ta_n)) (ss_c (s_ret (te_cmp (op := .eq) k.c (k.v 1) (k.s [])))
    ss_n) ss_n)
    (ss_c (s_asg (te_ix k.c (k.v 0) te_i) (tg_u k.c (tgs_c (tg_v (i := 3) k.c rfl (by first | exact Or.inl rfl | exact Or.inr rfl)) (tgs_c (tg_v (i := 4) k.c rfl (by first | exact Or.inl rfl | exact Or.inr rfl)) tgs_n))))
    (ss_c (s_set (i := 2) k.c rfl (by first | exact Or.inl rfl | exact Or.inr rfl) (te_and k.c (te_cmp (op := .ne) k.c (k.v 1) (k.s [])) (te_one (te_cmp (op := .in_) k.c (te_ix k.c (k.v 1) te_i) (k.v 3)))))
    (ss_c (s_if (tb_cmp (op := .eq) k.c (k.v 4) (k.s [111, 110, 101])) (ss_c (s_ret (te_and k.c (k.v 2) (te_one (k.call 22 (ta_c (te_sl10 (m := false) k.c (k.v 0) te_i) (ta_c (te_sl10 (m := false) k.c (k.v 1) te_i) ta_n))))))
    ss_n) ss_n)
    (ss_c (s_ret (te_or k.c (k.call 22 (ta_c (te_sl10 (m := false) k.c (k.v 0) te_i) (ta_c (k.v 1) ta_n))) (te_one (te_and k.c (k.v 2) (te_one (k.call 22 (ta_c (k.v 0) (ta_c (te_sl10 (m := false) k.c (k.v 1) te_i) ta_n))))))))
    ss_n)))))
abbrev N23 : List PySem.Str := ["_law_pattern", "_law_one", "_law_size"]
theorem S23 : FnScope N23 ["_law_pattern", "_law_one"] (defScope s23) := C8.fnScope_by (by decide +kernel)
theorem w23 {G : Gx} {P : Program} {w : World} {mg : PySem.Str → Option Value} {base : Heap} {n : Nat} {f : Addr} {fd : FuncData} (m : Mg G fr is ss cs mg) (hF : ∀ (j : Nat) q, tbl[j]? = some q → Fn1 G P w mg base Φ tf n q.1 q.2.1 q.2.2) (F : FunD G.K "_law_begins_in" "_law_begins_in" (defArgs s23) (defBody s23) (defScope s23) [] [] f fd) :
  FnX P w G.K mg base false (3 * (n + 1)) f fd ["_law_pattern", "_law_one"] (spF G Φ tf (n + 1) 23) :=
  fnX_of F S23 rfl rfl rfl fun cdv A outer s H E hc hg hr =>
     have k : Kx (Lk G) _ E n false := kx_def S23 hg hr m hF
    (ss_c (s_if (tb_val k.c (te_ix k.c (k.v 0) te_i) (bv_ix _ _)) (ss_c (s_ret (k.call 22 (ta_c (te_ix k.c (k.v 0) te_i) (ta_c (k.v 1) ta_n))))
    ss_n) ss_n)
    (ss_c (s_ret (te_cmp (op := .ne) k.c (te_lc (m := false) (own := [("_law_size", 2)]) k.c rfl (ti_r1 rfl (k.m.fr 10 _ rfl) (ta_c (te_bin (m := false) (op := .add) k.c (k.bi 6 false .len (ta_c (k.v 1) ta_n)) te_i) ta_n)) (blkOk_by (N := N23) (sc := defScope s23) (by decide +kernel)) (fun _ _ _ _ _ => (tg_v (i := 2) k.blk.c rfl (by first | exact Or.inl rfl | exact Or.inr rfl))) (fun _ _ _ _ _ => (tts_1 (tb_val k.blk.c (k.blk.call 22 (ta_c (te_ix k.blk.c (k.blk.v 0) te_i) (ta_c (te_sl01 (m := false) k.blk.c (k.blk.v 1) (k.blk.v 2)) ta_n))) (bv_call _ _)))) (fun _ _ _ _ _ => (k.blk.v 2))) (te_l (m := false) ta_n)))
    ss_n))
abbrev N24 : List PySem.Str := ["_law_pattern", "_law_one", "_law_size"]
theorem S24 : FnScope N24 ["_law_pattern", "_law_one"] (defScope s24) := C8.fnScope_by (by decide +kernel)
theorem w24 {G : Gx} {P : Program} {w : World} {mg : PySem.Str → Option Value} {base : Heap} {n : Nat} {f : Addr} {fd : FuncData} (m : Mg G fr is ss cs mg) (hF : ∀ (j : Nat) q, tbl[j]? = some q → Fn1 G P w mg base Φ tf n q.1 q.2.1 q.2.2) (F : FunD G.K "_law_ends_in" "_law_ends_in" (defArgs s24) (defBody s24) (defScope s24) [] [] f fd) :
  FnX P w G.K mg base false (3 * (n + 1)) f fd ["_law_pattern", "_law_one"] (spF G Φ tf (n + 1) 24) :=
  fnX_of F S24 rfl rfl rfl fun cdv A outer s H E hc hg hr =>
     have k : Kx (Lk G) _ E n false := kx_def S24 hg hr m hF
    (ss_c (s_if (tb_val k.c (te_ix k.c (k.v 0) te_i) (bv_ix _ _)) (ss_c (s_ret (k.call 22 (ta_c (te_ix k.c (k.v 0) te_i) (ta_c (k.v 1) ta_n))))
    ss_n) ss_n)
    (ss_c (s_ret (te_cmp (op := .ne) k.c (te_lc (m := false) (own := [("_law_size", 2)]) k.c rfl (ti_r1 rfl (k.m.fr 10 _ rfl) (ta_c (te_bin (m := false) (op := .add) k.c (k.bi 6 false .len (ta_c (k.v 1) ta_n)) te_i) ta_n)) (blkOk_by (N := N24) (sc := defScope s24) (by decide +kernel)) (fun _ _ _ _ _ => (tg_v (i := 2) k.blk.c rfl (by first | exact Or.inl rfl | exact Or.inr rfl))) (fun _ _ _ _ _ => (tts_1 (tb_val k.blk.c (k.blk.call 22 (ta_c (te_ix k.blk.c (k.blk.v 0) te_i) (ta_c (te_sl10 (m := false) k.blk.c (k.blk.v 1) (k.blk.v 2)) ta_n))) (bv_call _ _)))) (fun _ _ _ _ _ => (k.blk.v 2))) (te_l (m := false) ta_n)))
    ss_n))
abbrev N26 : List PySem.Str := ["_law_bag", "_law_pattern", "_law_found", "_law_some", "_law_signs", "_law_kind", "_law_front", "_law_last"]
theorem S26 : FnScope N26 ["_law_bag", "_law_pattern"] (defScope s26) := C8.fnScope_by (by decide +kernel)
theorem w26 {G : Gx} {P : Program} {w : World} {mg : PySem.Str → Option Value} {base : Heap} {n : Nat} {f : Addr} {fd : FuncData} (m : Mg G fr is ss cs mg) (hF : ∀ (j : Nat) q, tbl[j]? = some q → Fn1 G P w mg base Φ tf n q.1 q.2.1 q.2.2) (F : FunD G.K "_law_near_text" "_law_near_text" (defArgs s26) (defBody s26) (defScope s26) [] [] f fd) :
  FnX P w G.K mg base false (3 * (n + 1)) f fd ["_law_bag", "_law_pattern"] (spF G Φ tf (n + 1) 26) :=
  fnX_of F S26 rfl rfl rfl fun cdv A outer s H E hc hg hr =>
     have k : Kx (Lk G) _ E n false := kx_def S26 hg hr m hF
    (ss_c (s_set (i := 2) k.c rfl (by first | exact Or.inl rfl | exact Or.inr rfl) (k.s []))
    (ss_c (s_for k.c k.o (ti_e k.c (te_ix k.c (k.v 1) te_i)) (tg_u k.c (tgs_c (tg_v (i := 4) k.c rfl (by first | exact Or.inl rfl | exact Or.inr rfl)) (tgs_c (tg_v (i := 5) k.c rfl (by first | exact Or.inl rfl | exact Or.inr rfl)) tgs_n))) (ss_c (s_set (i := 2) k.c rfl (by first | exact Or.inl rfl | exact Or.inr rfl) (te_bin (m := false) (op := .add) k.c (k.v 2) (te_bin (m := false) (op := .mul) k.c (k.call 18 (ta_c (k.v 0) (ta_c (k.v 4) ta_n))) (te_ite (tb_cmp (op := .eq) k.c (k.v 5) (k.s [111, 110, 101])) te_i (k.call 17 (ta_c (k.v 0) (ta_c te_i ta_n)))))))
    ss_n))
    (ss_c (s_par (i := 6) (j := 7) k.c rfl rfl (by decide) rfl rfl (ta_c (k.call 19 (ta_c (k.v 0) (ta_c (k.s [97, 98, 99]) (ta_c te_i ta_n)))) (ta_c (k.call 19 (ta_c (k.v 0) (ta_c (k.s [97, 98, 99]) (ta_c te_i ta_n)))) ta_n)) rfl)
    (ss_c (s_set (i := 3) k.c rfl (by first | exact Or.inl rfl | exact Or.inr rfl) (te_l (m := false) (ta_c (k.v 2) (ta_c (te_bin (m := false) (op := .add) k.c (k.v 6) (k.v 2)) (ta_c (te_bin (m := false) (op := .add) k.c (k.v 2) (k.v 7)) (ta_c (te_bin (m := false) (op := .add) k.c (te_bin (m := false) (op := .add) k.c (k.v 6) (k.v 2)) (k.v 7)) (ta_c (te_sl10 (m := false) k.c (k.v 2) te_i) (ta_c (te_sl01 (m := false) k.c (k.v 2) (te_neg te_i)) (ta_c (te_bin (m := false) (op := .add) k.c (k.v 6) (k.v 7)) ta_n)))))))))
    (ss_c (s_ret (k.call 18 (ta_c (k.v 0) (ta_c (k.v 3) ta_n))))
    ss_n)))))
abbrev N27 : List PySem.Str := ["_law_pattern", "_law_one", "_law_told_here", "_law_due"]
theorem S27 : FnScope N27 ["_law_pattern", "_law_one"] (defScope s27) := C8.fnScope_by (by decide +kernel)
theorem w27 {G : Gx} {P : Program} {w : World} {mg : PySem.Str → Option Value} {base : Heap} {n : Nat} {f : Addr} {fd : FuncData} (m : Mg G fr is ss cs mg) (hF : ∀ (j : Nat) q, tbl[j]? = some q → Fn1 G P w mg base Φ tf n q.1 q.2.1 q.2.2) (F : FunD G.K "_law_judged_right" "_law_judged_right" (defArgs s27) (defBody s27) (defScope s27) [] [] f fd) :
  FnX P w G.K mg base true (3 * (n + 1)) f fd ["_law_pattern", "_law_one"] (spF G Φ tf (n + 1) 27) :=
  fnX_of F S27 rfl rfl rfl fun cdv A outer s H E hc hg hr =>
     have k : Kx (Lk G) _ E n true := kx_def S27 hg hr m hF
    (ss_c (s_set (i := 2) k.c rfl (by first | exact Or.inl rfl | exact Or.inr rfl) (te_l (m := false) (ta_c (k.call 13 (ta_c (k.v 0) (ta_c (k.v 1) ta_n))) (ta_c (k.call 14 (ta_c (k.v 0) (ta_c (k.v 1) ta_n))) (ta_c (k.call 15 (ta_c (k.v 0) (ta_c (k.v 1) ta_n))) ta_n)))))
    (ss_c (s_set (i := 3) k.c rfl (by first | exact Or.inl rfl | exact Or.inr rfl) (te_l (m := false) (ta_c (k.call 22 (ta_c (te_ix k.c (k.v 0) te_i) (ta_c (k.v 1) ta_n))) (ta_c (k.call 23 (ta_c (k.v 0) (ta_c (k.v 1) ta_n))) (ta_c (k.call 24 (ta_c (k.v 0) (ta_c (k.v 1) ta_n))) ta_n)))))
    (ss_c (s_ret (te_cmp (op := .eq) k.c (k.bi 11 false .repr (ta_c (k.v 2) ta_n)) (k.bi 11 false .repr (ta_c (k.v 3) ta_n))))
    ss_n)))
abbrev N28 : List PySem.Str := ["_law_bag", "_law_pattern", "_law_some", "_law_bad", "_law_items", "_law_item", "_law_odd"]
theorem S28 : FnScope N28 ["_law_bag", "_law_pattern"] (defScope s28) := C8.fnScope_by (by decide +kernel)
theorem w28 {G : Gx} {P : Program} {w : World} {mg : PySem.Str → Option Value} {base : Heap} {n : Nat} {f : Addr} {fd : FuncData} (m : Mg G fr is ss cs mg) (hF : ∀ (j : Nat) q, tbl[j]? = some q → Fn1 G P w mg base Φ tf n q.1 q.2.1 q.2.2) (F : FunD G.K "_law_bad_patterns" "_law_bad_patterns" (defArgs s28) (defBody s28) (defScope s28) [] [] f fd) :
  FnX P w G.K mg base false (3 * (n + 1)) f fd ["_law_bag", "_law_pattern"] (spF G Φ tf (n + 1) 28) :=
  fnX_of F S28 rfl rfl rfl fun cdv A outer s H E hc hg hr =>
     have k : Kx (Lk G) _ E n false := kx_def S28 hg hr m hF
    (ss_c (s_asg (te_t (ta_c (te_ix k.c (k.v 1) te_i) (ta_c (k.call 18 (ta_c (k.v 0) (ta_c (te_l (m := false) (ta_c (te_t (ta_c (k.s [97]) (ta_c (k.s [111, 110, 101]) ta_n))) (ta_c (te_t (ta_c (k.s [98, 99]) (ta_c (k.s [97, 110, 121]) ta_n))) ta_n))) ta_n))) ta_n))) (tg_u k.c (tgs_c (tg_v (i := 4) k.c rfl (by first | exact Or.inl rfl | exact Or.inr rfl)) (tgs_c (tg_v (i := 5) k.c rfl (by first | exact Or.inl rfl | exact Or.inr rfl)) tgs_n))))
    (ss_c (s_set (i := 2) k.c rfl (by first | exact Or.inl rfl | exact Or.inr rfl) (te_l (m := false) (ta_c te_n (ta_c te_i (ta_c (te_t ta_n) (ta_c (te_l (m := false) ta_n) (ta_c (te_d (m := false)) (ta_c (k.s [97]) (ta_c (k.v 4) (ta_c (te_t (ta_c (k.v 4) ta_n)) (ta_c (te_t (ta_c (k.v 4) (ta_c te_i ta_n))) (ta_c (te_t (ta_c (k.v 4) (ta_c te_n ta_n))) (ta_c (te_t (ta_c (k.v 4) (ta_c te_i ta_n))) (ta_c (te_t (ta_c (k.bt 7 false .list (ta_c (k.v 4) ta_n)) (ta_c te_b ta_n))) ta_n))))))))))))))
    (ss_c (s_set (i := 2) k.c rfl (by first | exact Or.inl rfl | exact Or.inr rfl) (te_bin (m := false) (op := .add) k.c (k.v 2) (te_l (m := false) (ta_c (k.bt 7 false .list (ta_c (k.v 1) ta_n)) (ta_c (te_bin (m := false) (op := .add) k.c (k.v 1) (te_t (ta_c te_b ta_n))) (ta_c (te_t (ta_c (te_bin (m := false) (op := .mul) k.c (te_t (ta_c (k.v 5) ta_n)) te_i) (ta_c te_b ta_n))) (ta_c (te_t (ta_c (te_t (ta_c (k.v 5) (ta_c te_n ta_n))) (ta_c te_b ta_n))) (ta_c (te_t (ta_c te_n (ta_c te_b ta_n))) ta_n))))))))
    (ss_c (s_set (i := 3) k.c rfl (by first | exact Or.inl rfl | exact Or.inr rfl) (te_l (m := false) (ta_c (te_t (ta_c (k.s []) (ta_c (k.s [111, 110, 101]) ta_n))) (ta_c (te_t (ta_c (k.s [98, 97]) (ta_c (k.s [111, 110, 101]) ta_n))) (ta_c (te_t (ta_c (k.s [97, 97]) (ta_c (k.s [97, 110, 121]) ta_n))) (ta_c (te_t (ta_c (k.s [65]) (ta_c (k.s [97, 110, 121]) ta_n))) (ta_c (te_t (ta_c (k.s [97]) (ta_c (k.s [79, 110, 101]) ta_n))) (ta_c (te_t (ta_c (k.s [97]) (ta_c te_n ta_n))) (ta_c (te_t (ta_c (k.s [97]) ta_n)) (ta_c (k.s [97, 98]) ta_n))))))))))
    (ss_c (s_set (i := 2) k.c rfl (by first | exact Or.inl rfl | exact Or.inr rfl) (te_bin (m := false) (op := .add) k.c (k.v 2) (te_lc (m := false) (own := [("_law_odd", 6)]) k.c rfl (ti_e k.c (k.v 3)) (blkOk_by (N := N28) (sc := defScope s28) (by decide +kernel)) (fun _ _ _ _ _ => (tg_v (i := 6) k.blk.c rfl (by first | exact Or.inl rfl | exact Or.inr rfl))) (fun _ _ _ _ _ => tts_n) (fun _ _ _ _ _ => (te_t (ta_c (te_t (ta_c (k.blk.v 6) ta_n)) (ta_c te_b ta_n)))))))
    (ss_c (s_set (i := 3) k.c rfl (by first | exact Or.inl rfl | exact Or.inr rfl) (te_l (m := false) (ta_c (te_t (ta_c (k.s [97]) (ta_c (k.s [111, 110, 101]) (ta_c te_i ta_n)))) (ta_c (te_t (ta_c (k.s [97, 32, 98]) (ta_c (k.s [111, 110, 101]) ta_n))) (ta_c (te_t (ta_c (te_t (ta_c (k.s [97]) ta_n)) (ta_c (k.s [111, 110, 101]) ta_n))) (ta_c (te_t (ta_c te_n (ta_c (k.s [97, 110, 121]) ta_n))) (ta_c (te_t (ta_c (k.s [97]) (ta_c (te_l (m := false) (ta_c (k.s [97, 110, 121]) ta_n)) ta_n))) (ta_c (te_t (ta_c (k.s [97, 49]) (ta_c (k.s [111, 110, 101]) ta_n))) (ta_c (te_l (m := false) (ta_c (k.s [97]) (ta_c (k.s [111, 110, 101]) ta_n))) ta_n)))))))))
    (ss_c (s_set (i := 2) k.c rfl (by first | exact Or.inl rfl | exact Or.inr rfl) (te_bin (m := false) (op := .add) k.c (k.v 2) (te_lc (m := false) (own := [("_law_odd", 6)]) k.c rfl (ti_e k.c (k.v 3)) (blkOk_by (N := N28) (sc := defScope s28) (by decide +kernel)) (fun _ _ _ _ _ => (tg_v (i := 6) k.blk.c rfl (by first | exact Or.inl rfl | exact Or.inr rfl))) (fun _ _ _ _ _ => tts_n) (fun _ _ _ _ _ => (te_t (ta_c (te_t (ta_c (k.blk.v 5) (ta_c (k.blk.v 6) ta_n))) (ta_c te_b ta_n)))))))
    (ss_c (s_ret (te_bin (m := false) (op := .add) k.c (k.v 2) (te_l (m := false) (ta_c (te_t (ta_c (k.v 5) (ta_c te_b ta_n))) (ta_c (te_t (ta_c (te_t (ta_c (k.s [97]) (ta_c (k.s [111, 110, 101]) ta_n))) (ta_c te_b ta_n))) (ta_c (te_t (ta_c te_b (ta_c te_b ta_n))) ta_n))))))
    ss_n))))))))
abbrev N29 : List PySem.Str := ["_law_bag", "_law_pattern", "_law_one", "_law_odd", "_law_off", "_law_told_here", "_law_first", "_law_second", "_law_value"]
theorem S29 : FnScope N29 ["_law_bag", "_law_pattern", "_law_one"] (defScope s29) := C8.fnScope_by (by decide +kernel)
theorem w29 {G : Gx} {P : Program} {w : World} {mg : PySem.Str → Option Value} {base : Heap} {n : Nat} {f : Addr} {fd : FuncData} (m : Mg G fr is ss cs mg) (hF : ∀ (j : Nat) q, tbl[j]? = some q → Fn1 G P w mg base Φ tf n q.1 q.2.1 q.2.2) (CAT : ∀ (cdv : Value) (A : Around) (outer : List PySem.Env) (s : Shared) (H : Hp) (E : XK), (∃ oc od osl fd', G.K.lookup f = some ⟨oc, od, .func fd', osl⟩ ∧ fd'.code = cdv ∧ PySem.W.codeIn G.K cdv "_law_refused_right" = true) → Room (3 * n + 2) (A.deeper (envOfC "_law_refused_right" (defScope s29) s.heap.objs.size f cdv)) → Cat (Lk G) (cxOf (L2.CX P w) P w G.K mg base N29 "_law_refused_right" (defScope s29) f cdv A outer s H E) 0 "_law_told" n) (F : FunD G.K "_law_refused_right" "_law_refused_right" (defArgs s29) (defBody s29) (defScope s29) [] [] f fd) :
  FnX P w G.K mg base false (3 * (n + 1)) f fd ["_law_bag", "_law_pattern", "_law_one"] (spF G Φ tf (n + 1) 29) :=
  fnX_of F S29 rfl rfl rfl fun cdv A outer s H E hc hg hr =>
    have hC := CAT cdv A outer s H E hc hr
    have k : Kx (Lk G) _ E n false := kx_def S29 hg hr m hF
    (ss_c (s_set (i := 3) k.c rfl (by first | exact Or.inl rfl | exact Or.inr rfl) (k.call 18 (ta_c (k.v 0) (ta_c (k.call 27 (ta_c (k.v 0) (ta_c (k.v 1) ta_n))) ta_n))))
    (ss_c (s_set (i := 4) k.c rfl (by first | exact Or.inl rfl | exact Or.inr rfl) (k.call 18 (ta_c (k.v 0) (ta_c (te_l (m := false) (ta_c te_n (ta_c te_i (ta_c (k.s [65]) (ta_c (k.s [97, 32, 98]) (ta_c (te_bin (m := false) (op := .mul) k.c (k.s [97]) te_i) (ta_c (te_l (m := false) (ta_c (k.s [97]) ta_n)) (ta_c (te_t (ta_c (k.s [97]) ta_n)) (ta_c (k.s [97, 10]) (ta_c (te_d (m := false)) (ta_c te_b (ta_c (k.s [97, 49]) ta_n)))))))))))) ta_n))))
    (ss_c (s_set (i := 5) k.c rfl (by first | exact Or.inl rfl | exact Or.inr rfl) (te_l (m := true) ta_n))
    (ss_c (s_for k.c k.o (ti_e k.c (te_t (ta_c (te_t (ta_c (k.v 3) (ta_c (k.v 2) ta_n))) (ta_c (te_t (ta_c (k.v 3) (ta_c (k.v 4) ta_n))) (ta_c (te_t (ta_c (k.v 1) (ta_c (k.v 4) ta_n))) (ta_c (te_t (ta_c (k.v 1) (ta_c (k.v 2) ta_n))) ta_n)))))) (tg_u k.c (tgs_c (tg_v (i := 6) k.c rfl (by first | exact Or.inl rfl | exact Or.inr rfl)) (tgs_c (tg_v (i := 7) k.c rfl (by first | exact Or.inl rfl | exact Or.inr rfl)) tgs_n))) (ss_c (s_ex (te_app k.c (k.v 5) (ta_c (te_told (g := 0) k hC rfl (LamX.lamS_by (sc := defScope s29) (by decide +kernel)) rfl (fun _ _ _ _ _ => rfl) fun _ _ _ _ _ _ _ kl => (kl.call 13 (ta_c (kl.v 6) (ta_c (kl.v 7) ta_n)))) ta_n)))
    (ss_c (s_ex (te_app k.c (k.v 5) (ta_c (te_told (g := 0) k hC rfl (LamX.lamS_by (sc := defScope s29) (by decide +kernel)) rfl (fun _ _ _ _ _ => rfl) fun _ _ _ _ _ _ _ kl => (kl.call 14 (ta_c (kl.v 6) (ta_c (kl.v 7) ta_n)))) ta_n)))
    (ss_c (s_ex (te_app k.c (k.v 5) (ta_c (te_told (g := 0) k hC rfl (LamX.lamS_by (sc := defScope s29) (by decide +kernel)) rfl (fun _ _ _ _ _ => rfl) fun _ _ _ _ _ _ _ kl => (kl.call 15 (ta_c (kl.v 6) (ta_c (kl.v 7) ta_n)))) ta_n)))
    ss_n))))
    (ss_c (s_if (PW.pt (tw_or (tb_cmp (op := .ne) k.c (k.v 5) (te_bin (m := false) (op := .add) k.c (te_bin (m := false) (op := .add) k.c (te_bin (m := false) (op := .mul) k.c (te_l (m := false) (ta_c (k.s [98, 111, 111, 107]) ta_n)) te_i) (te_bin (m := false) (op := .mul) k.c (te_l (m := false) (ta_c (k.s [116, 101, 120, 116]) ta_n)) te_i)) (te_bin (m := false) (op := .mul) k.c (te_l (m := false) (ta_c (k.s [114, 101, 116, 117, 114, 110, 101, 100]) ta_n)) te_i))) (tw_or1 (tb_cmp (op := .isnt) k.c (k.call 5 (ta_c (k.v 1) ta_n)) te_b)))) (ss_c (s_ret te_b)
    ss_n) ss_n)
    (ss_c (s_ret (te_cmp (op := .eq) k.c (te_lc (m := false) (own := [("_law_value", 8)]) k.c rfl (ti_e k.c (k.call 27 (ta_c (k.v 0) (ta_c (k.v 1) ta_n)))) (blkOk_by (N := N29) (sc := defScope s29) (by decide +kernel)) (fun _ _ _ _ _ => (tg_v (i := 8) k.blk.c rfl (by first | exact Or.inl rfl | exact Or.inr rfl))) (fun _ _ _ _ _ => (tts_1 (tb_cmp (op := .isnt) k.blk.c (k.blk.call 5 (ta_c (k.blk.v 8) ta_n)) te_b))) (fun _ _ _ _ _ => (k.blk.v 8))) (te_l (m := false) ta_n)))
    ss_n))))))
abbrev N30 : List PySem.Str := ["_law_script", "_law_at", "_law_wide", "_law_told_here", "_law_pattern", "_law_bag", "_law_turn", "_law_one", "_law_some", "_law_text"]
theorem S30 : FnScope N30 ["_law_script"] (defScope s30) := C8.fnScope_by (by decide +kernel)
theorem w30 {G : Gx} {P : Program} {w : World} {mg : PySem.Str → Option Value} {base : Heap} {n : Nat} {f : Addr} {fd : FuncData} (m : Mg G fr is ss cs mg) (hF : ∀ (j : Nat) q, tbl[j]? = some q → Fn1 G P w mg base Φ tf n q.1 q.2.1 q.2.2) (F : FunD G.K "law" "law" (defArgs s30) (defBody s30) (defScope s30) [] [] f fd) :
  FnX P w G.K mg base true (3 * (n + 1)) f fd ["_law_script"] (spF G Φ tf (n + 1) 30) :=
  fnX_of F S30 rfl rfl rfl fun cdv A outer s H E hc hg hr =>
     have k : Kx (Lk G) _ E n true := kx_def S30 hg hr m hF
    (ss_c (s_for k.c k.o (ti_r1 rfl (k.m.fr 10 _ rfl) (ta_c (k.bi 8 false .max (ta_c te_i (ta_c (k.bi 9 false .min (ta_c te_i (ta_c (k.bi 6 false .len (ta_c (k.v 0) ta_n)) ta_n))) ta_n))) ta_n)) (tg_v (i := 1) k.c rfl (by first | exact Or.inl rfl | exact Or.inr rfl)) (ss_c (s_set (i := 5) k.c rfl (by first | exact Or.inl rfl | exact Or.inr rfl) (k.call 16 (ta_c (k.v 0) (ta_c (k.v 1) ta_n))))
    (ss_c (s_for k.c k.o (ti_r1 rfl (k.m.fr 10 _ rfl) (ta_c te_i ta_n)) (tg_v (i := 6) k.c rfl (by first | exact Or.inl rfl | exact Or.inr rfl)) (ss_c (s_set (i := 4) k.c rfl (by first | exact Or.inl rfl | exact Or.inr rfl) (k.call 21 (ta_c (k.v 5) (ta_c (k.call 18 (ta_c (k.v 5) (ta_c (te_l (m := false) (ta_c (k.s [97]) (ta_c (k.s [97, 98]) (ta_c (k.s [97, 98, 99]) (ta_c (k.s [97, 98, 99, 122]) ta_n))))) ta_n))) ta_n))))
    (ss_c (s_set (i := 7) k.c rfl (by first | exact Or.inl rfl | exact Or.inr rfl) (k.call 25 (ta_c (k.v 5) (ta_c (k.v 4) ta_n))))
    (ss_c (s_set (i := 8) k.c rfl (by first | exact Or.inl rfl | exact Or.inr rfl) (te_l (m := false) (ta_c (k.v 7) (ta_c (k.s []) (ta_c (k.call 25 (ta_c (k.v 5) (ta_c (k.v 4) ta_n))) (ta_c (k.call 19 (ta_c (k.v 5) (ta_c (k.s [97, 98, 99]) (ta_c te_i ta_n)))) ta_n))))))
    (ss_c (s_if (tb_cmp (op := .ne) k.c (te_lc (m := false) (own := [("_law_text", 9)]) k.c rfl (ti_e k.c (k.v 8)) (blkOk_by (N := N30) (sc := defScope s30) (by decide +kernel)) (fun _ _ _ _ _ => (tg_v (i := 9) k.blk.c rfl (by first | exact Or.inl rfl | exact Or.inr rfl))) (fun _ _ _ _ _ => (tts_1 (tb_not (tb_val k.blk.c (k.blk.call 26 (ta_c (k.blk.v 4) (ta_c (k.blk.v 9) ta_n))) (bv_call _ _))))) (fun _ _ _ _ _ => (k.blk.v 9))) (te_l (m := false) ta_n)) (ss_c (s_ret te_b)
    ss_n) ss_n)
    (ss_c (s_if (tb_not (tb_val k.c (k.call 28 (ta_c (k.v 5) (ta_c (k.v 4) (ta_c (k.v 7) ta_n)))) (bv_call _ _))) (ss_c (s_ret te_b)
    ss_n) ss_n)
    ss_n))))))
    ss_n)))
    (ss_c (s_set (i := 2) k.c rfl (by first | exact Or.inl rfl | exact Or.inr rfl) (te_t (ta_c (te_t (ta_c (te_t (ta_c (k.s [97, 98, 99, 100, 101, 102, 103, 104, 105, 106, 107, 108, 109, 110, 111, 112, 113, 114, 115, 116, 117, 118, 119, 120, 121, 122]) (ta_c (k.s [97, 110, 121]) ta_n))) (ta_c (te_t (ta_c (k.s [122]) (ta_c (k.s [111, 110, 101]) ta_n))) ta_n))) (ta_c te_b ta_n))))
    (ss_c (s_set (i := 3) k.c rfl (by first | exact Or.inl rfl | exact Or.inr rfl) (te_l (m := true) (ta_c (k.call 14 (ta_c (k.v 2) (ta_c (te_bin (m := false) (op := .add) k.c (te_bin (m := false) (op := .mul) k.c (k.s [97]) te_i) (k.s [122])) ta_n))) (ta_c (k.call 14 (ta_c (k.v 2) (ta_c (te_bin (m := false) (op := .mul) k.c (k.s [97]) te_i) ta_n))) (ta_c (k.call 15 (ta_c (k.v 2) (ta_c (k.s [122, 122, 122]) ta_n))) ta_n)))))
    (ss_c (s_if (PW.pt (tw_or (tb_cmp (op := .ne) k.c (te_bin (m := false) (op := .add) k.c (k.v 3) (te_l (m := false) (ta_c (k.call 13 (ta_c (k.v 2) (ta_c (te_bin (m := false) (op := .mul) k.c (k.s [122]) te_i) ta_n))) ta_n))) (te_l (m := false) (ta_c te_b (ta_c te_b (ta_c te_b (ta_c te_b ta_n)))))) (tw_or1 (tb_cmp (op := .isnt) k.c (k.call 15 (ta_c (te_t (ta_c (te_ix k.c (k.v 2) te_i) (ta_c te_b ta_n))) (ta_c (k.s [97, 122]) ta_n))) te_b)))) (ss_c (s_ret te_b)
    ss_n) ss_n)
    (ss_c (s_set (i := 3) k.c rfl (by first | exact Or.inl rfl | exact Or.inr rfl) (te_l (m := true) ta_n))
    (ss_c (s_for k.c k.o (ti_e k.c (te_t (ta_c (te_t (ta_c (te_t ta_n) (ta_c te_b ta_n))) (ta_c (te_t (ta_c (te_t ta_n) (ta_c te_b ta_n))) ta_n)))) (tg_v (i := 4) k.c rfl (by first | exact Or.inl rfl | exact Or.inr rfl)) (ss_c (s_ex (te_app k.c (k.v 3) (ta_c (te_l (m := false) (ta_c (k.call 13 (ta_c (k.v 4) (ta_c (k.s []) ta_n))) (ta_c (k.call 13 (ta_c (k.v 4) (ta_c (k.s [97]) ta_n))) (ta_c (k.call 14 (ta_c (k.v 4) (ta_c (k.s [97]) ta_n))) (ta_c (k.call 15 (ta_c (k.v 4) (ta_c (k.s [97, 98]) ta_n))) ta_n))))) ta_n)))
    ss_n))
    (ss_c (s_ret (te_cmp (op := .eq) k.c (k.v 3) (te_l (m := false) (ta_c (te_l (m := false) (ta_c te_b (ta_c te_b (ta_c te_b (ta_c te_b ta_n))))) (ta_c (te_l (m := false) (ta_c te_b (ta_c te_b (ta_c te_b (ta_c te_b ta_n))))) ta_n)))))
    ss_n)))))))
end K60
end
/-! part K60b -/
section
set_option autoImplicit false
set_option linter.all false
set_option maxRecDepth 10000
/-! K60b: how the evaluator runs: comprehensions, calls; the small functions of law k60. -/
namespace K60
open Tw

theorem ofO_s {α : Type} (a : α) (h : Hm) : ofO (some a) h = .ok a h := rfl
theorem lk_str (h : Hm) (s : List Nat) : look h (.str s) = .str s := rfl
theorem lk_int (h : Hm) (i : Int) : look h (.int i) = .int i := rfl
theorem lk_bl (h : Hm) (b : Bool) : look h (.bl b) = .bl b := rfl
theorem lk_non (h : Hm) : look h .non = .non := rfl
theorem lk_tup (h : Hm) (l : List T) : look h (.tup l) = .tup l := rfl
theorem lk_lst (h : Hm) (l : List T) : look h (.lst l) = .lst l := rfl
theorem tr_bl (b : Bool) : truth (.bl b) = some b := rfl
theorem mkF (t : T) (h : Hm) : mk false t h = .ok t h := rfl
theorem R_ok {α β : Type} (a : α) (h : Hm) (f : α → Hm → R β) : (R.ok a h).bind f = f a h := rfl
theorem R_exc {α β : Type} (c : Nat) (l : List T) (h : Hm) (f : α → Hm → R β) : (R.exc c l h : R α).bind f = .exc c l h := rfl
mutual
theorem beq_refl : ∀ t : T, T.beq t t = true
  | .non => rfl
  | .bl b => by simp [T.beq]
  | .int _ => by simp [T.beq]
  | .str _ => by simp [T.beq]
  | .tup l => beqs_refl l
  | .lst l => beqs_refl l
  | .dct a b => by simp [T.beq, beqs_refl a, beqs_refl b]
  | .ins c n l => by simp [T.beq, beqs_refl l]
  | .ref _ => by simp [T.beq]
theorem beqs_refl : ∀ l : List T, T.beqs l l = true
  | [] => rfl
  | t :: l => by simp [T.beqs, beq_refl t, beqs_refl l]
end
theorem slotB_refl (o : Option MO) : slotB o o = true := by
  cases o with
  | none => rfl
  | some m => cases m <;> simp [slotB, MO.beq, beqs_refl]
theorem preB_app (n : Nat) : ∀ (h l : Hm), preB n h (h ++ l) = true
  | [], _ => rfl
  | a :: h, l => by simp [preB, slotB_refl, preB_app n h l]
theorem preB_set (n : Nat) : ∀ (h l : Hm) (j : Nat) (m : MO), m.und n = true → preB n h (h.set j (some m) ++ l) = true
  | [], _, _, _, _ => rfl
  | a :: h, l, 0, m, u => by simp [preB, u, preB_app n h l]
  | a :: h, l, j + 1, m, u => by simp [preB, slotB_refl, preB_set n h l j m u]
theorem leave_app {h : Hm} {t : T} (l : Hm) (u : t.und h.length = true) : leave h t (h ++ l) = .ok t h := by
  simp [leave, u, preB_app]
theorem leave_same {h : Hm} {t : T} (u : t.und h.length = true) : leave h t h = .ok t h := by
  have := leave_app (h := h) [] u
  simpa using this
theorem leave_set {h : Hm} {t : T} {j : Nat} {m : MO} (l : Hm) (u : t.und h.length = true) (v : m.und h.length = true) : leave h t (h.set j (some m) ++ l) = .ok t (h.set j (some m)) := by
  simp [leave, u, preB_set _ _ _ _ _ v]
theorem leave_set0 {h : Hm} {t : T} {j : Nat} {m : MO} (u : t.und h.length = true) (v : m.und h.length = true) : leave h t (h.set j (some m)) = .ok t (h.set j (some m)) := by
  have := leave_set (h := h) (j := j) [] u v
  simpa using this
theorem leaveX_same {h : Hm} {c : Nat} {ts : List T} (u : T.unds h.length ts = true) : leaveX h c ts h = .exc c ts h := by
  have := preB_app h.length h []
  simp at this
  simp [leaveX, u, this]
/-- a comprehension whose turns do nothing but answer -/
theorem lcLoop_pure {go : T → Sl → Hm → R (Option T)} {f : T → Option T} {σ : Sl} {h : Hm} : ∀ (xs : List T) (acc : List T), (∀ x ∈ xs, ∀ h', go x σ h' = .ok (f x) h') → acc.length + xs.length < lim →
    lcLoop go σ h.length xs (h ++ [some (.lst acc)]) = .ok () (h ++ [some (.lst (acc ++ xs.filterMap f))])
  | [], acc, _, _ => by simp [lcLoop]
  | x :: xs, acc, hg, hl => by
    have e := hg x List.mem_cons_self (h ++ [some (.lst acc)])
    have hg' : ∀ x ∈ xs, ∀ h', go x σ h' = .ok (f x) h' := fun y hy => hg y (List.mem_cons_of_mem _ hy)
    simp only [List.length_cons] at hl
    unfold lcLoop
    rw [e]
    cases q : f x with
    | none =>
      simp only [List.filterMap_cons, q]
      exact lcLoop_pure xs acc hg' (by omega)
    | some y =>
      simp only [List.filterMap_cons, q]
      have hlt : acc.length < lim := by omega
      simp only [List.getElem?_append_right (Nat.le_refl _), Nat.sub_self, List.getElem?_cons_zero, if_pos hlt]
      have e2 : (h ++ [some (MO.lst acc)]).set h.length (some (.lst (acc ++ [y]))) = h ++ [some (.lst (acc ++ [y]))] := by
        rw [List.set_append_right _ _ (Nat.le_refl _), Nat.sub_self]
        rfl
      rw [e2]
      have ih := lcLoop_pure (go := go) (f := f) (σ := σ) (h := h) xs (acc ++ [y]) hg' (by simp; omega)
      rw [ih]
      simp
theorem lc_pure {go : T → Sl → Hm → R (Option T)} {f : T → Option T} {σ : Sl} {h : Hm} {xs : List T} (hg : ∀ x ∈ xs, ∀ h', go x σ h' = .ok (f x) h') (hl : xs.length < lim) :
    ((lcLoop go σ h.length xs (h ++ [some (.lst [])])).bind fun _ h' => lcEnd false h.length h') = .ok (.lst (xs.filterMap f)) (h ++ [none]) := by
  rw [lcLoop_pure xs [] hg (by simpa using hl)]
  simp only [R_ok, lcEnd, if_neg Bool.false_ne_true, frzR, List.getElem?_append_right (Nat.le_refl _), Nat.sub_self, List.getElem?_cons_zero, List.nil_append]
  rw [List.set_append_right _ _ (Nat.le_refl _), Nat.sub_self]
  rfl
/-- a comprehension, by what it walks and its turn -/
theorem ev_lcp {Γ : Env} {g : Tg} {it : It} {cs : List Ex} {e : Ex} {σ : Sl} {h : Hm} {xs : List T} (f : T → Option T) (hi : evI Γ it σ h = .ok xs h) (hg : ∀ x ∈ xs, ∀ h', lcGo g (fun σ h => evBs Γ cs σ h) (fun σ h => evE Γ e σ h) x σ h' = .ok (f x) h') (hl : xs.length < lim) :
    evE Γ (.lc false g it cs e) σ h = .ok (.lst (xs.filterMap f)) (h ++ [none]) := by
  rw [evE, hi]
  exact lc_pure hg hl
/-- behind a body -/
def cEnd (h : Hm) : R Fl → R T
  | .ok (.ret t) h' => leave h t h'
  | .ok (.next _) h' => leave h .non h'
  | .exc c ts h' => leaveX h c ts h'
  | _ => .bad
theorem call_eq {n f : Nat} {ts : List T} {h : Hm} {d : FD} (e : Φ f = some d) (hl : ts.length = d.np) :
    call Φ tf (n + 1) f ts h = cEnd h (evSs ⟨call Φ tf n, tf⟩ d.body (ts.map some ++ List.replicate (d.nl - d.np) none) h) := by
  rw [call, e]
  simp only [if_pos hl]
  cases evSs ⟨call Φ tf n, tf⟩ d.body (ts.map some ++ List.replicate (d.nl - d.np) none) h with
  | ok fl h' => cases fl <;> rfl
  | exc _ _ _ => rfl
  | bad => rfl
/-! ### is_word -/
def abc : List Nat := [97, 98, 99, 100, 101, 102, 103, 104, 105, 106, 107, 108, 109, 110, 111, 112, 113, 114, 115, 116, 117, 118, 119, 120, 121, 122]
mutual
/-- a value without references, instances -/
def nr : T → Bool
  | .non => true
  | .bl _ => true
  | .int _ => true
  | .str s => decide (s.length ≤ 1000)
  | .tup l => decide (l.length ≤ 1000) && nrs l
  | .lst l => decide (l.length ≤ 1000) && nrs l
  | .dct a b => nrs a && nrs b
  | .ins _ _ _ => false
  | .ref _ => false
def nrs : List T → Bool
  | [] => true
  | t :: l => nr t && nrs l
end
mutual
theorem nr_und (n : Nat) : ∀ t : T, nr t = true → t.und n = true
  | .non, _ => rfl
  | .bl _, _ => rfl
  | .int _, _ => rfl
  | .str _, _ => rfl
  | .tup l, h => nrs_und n l (by simp only [nr, Bool.and_eq_true] at h; exact h.2)
  | .lst l, h => nrs_und n l (by simp only [nr, Bool.and_eq_true] at h; exact h.2)
  | .dct a b, h => by
    simp only [nr, Bool.and_eq_true] at h
    simp [T.und, nrs_und n a h.1, nrs_und n b h.2]
  | .ins _ _ _, h => by simp [nr] at h
  | .ref _, h => by simp [nr] at h
theorem nrs_und (n : Nat) : ∀ l : List T, nrs l = true → T.unds n l = true
  | [], _ => rfl
  | t :: l, h => by
    simp only [nrs, Bool.and_eq_true] at h
    simp [T.unds, nr_und n t h.1, nrs_und n l h.2]
end
theorem nr_look {t : T} (h : Hm) (e : nr t = true) : look h t = t := by cases t <;> first | rfl | simp [nr] at e
def isW : T → Bool
  | .str s => s.all fun c => abc.contains c
  | _ => false
theorem bls_map {α : Type} (g : α → Bool) : ∀ l : List α, bls (l.map fun x => T.bl (g x)) = some (l.map g)
  | [] => rfl
  | x :: l => by simp [bls, bls_map g l]
theorem filterMap_some {α β : Type} (g : α → β) (l : List α) : l.filterMap (fun x => some (g x)) = l.map g := by
  induction l with
  | nil => rfl
  | cons x l ih => simp [ih]
def chT (s : List Nat) : List T := s.map fun c => T.str [c]
theorem cE (h : Hm) (t : T) (l : Hm) (u : t.und h.length = true) : cEnd h (.ok (.ret t) (h ++ l)) = .ok t h := leave_app l u
theorem cE0 (h : Hm) (t : T) (u : t.und h.length = true) : cEnd h (.ok (.ret t) h) = .ok t h := leave_same u
theorem cN0 (h : Hm) (σ : Sl) : cEnd h (.ok (.next σ) h) = .ok .non h := leave_same rfl
theorem cX0 (h : Hm) (c : Nat) : cEnd h (.exc c [] h) = .exc c [] h := leaveX_same rfl
theorem chT_len (s : List Nat) : (chT s).length = s.length := by simp [chT]
theorem nr_len {s : List Nat} (h : nr (.str s) = true) : s.length < lim := Nat.lt_of_le_of_lt (of_decide_eq_true h) (by decide)
theorem sp0 (n : Nat) (v : T) (hv : nr v = true) (h : Hm) : call Φ tf (n + 1) 0 [v] h = .ok (.bl (isW v)) h := by
  rw [call_eq (d := ⟨1, 2, b0⟩) rfl rfl]
  cases v with
  | str s =>
    have e : ∀ h, evE ⟨call Φ tf n, tf⟩ (.lc false (.v 1) (.e (.v 0)) [] (.cmp .in_ (.v 1) (.c (.str abc)))) [some (.str s), none] h = .ok (.lst ((chT s).filterMap fun x => some (.bl (match x with | .str [c] => abc.contains c | _ => false)))) (h ++ [none]) := fun h => by
      refine ev_lcp _ (by simp only [evI, evE, List.getElem?_cons_zero, R_ok, itemsO, ofO_s]; rfl) (fun x hx h' => ?_) (by rw [chT_len]; exact nr_len hv)
      obtain ⟨c, _, rfl⟩ := List.mem_map.mp hx
      simp only [lcGo, Tg.put, evBs, evE, List.set_cons_succ, List.set_cons_zero, List.getElem?_cons_succ, List.getElem?_cons_zero, R_ok, lk_str, cmO, inO, Option.map_some, ofO_s, if_pos]
    have e2 : bls ((chT s).filterMap fun x => some (.bl (match x with | .str [c] => abc.contains c | _ => false))) = some (s.map fun c => abc.contains c) := by
      rw [filterMap_some, chT, List.map_map]
      exact bls_map (fun c => abc.contains c) s
    have e3 : (s.map fun c => abc.contains c).all id = s.all fun c => abc.contains c := by rw [List.all_map]; rfl
    simp only [show b0 = [.ret (.and (.isi (.v 0) .str) (.bi false .all [.lc false (.v 1) (.e (.v 0)) [] (.cmp .in_ (.v 1) (.c (.str abc)))]))] from rfl, evSs, evS, ↓e, evE, evEs, List.map_cons, List.map_nil, List.replicate, List.cons_append, List.nil_append, List.getElem?_cons_zero, R_ok, lk_str, isiO, Option.map_some, ofO_s, lk_bl, tr_bl, lk_lst, biO, e2, e3, mkF]
    exact cE h _ _ rfl
  | ins _ _ _ => simp [nr] at hv
  | ref _ => simp [nr] at hv
  | _ =>
    simp only [b0, evSs, evS, evE, evEs, List.map_cons, List.map_nil, List.replicate, List.cons_append, List.nil_append, List.getElem?_cons_zero, R_ok, look, isiO, Option.map_some, ofO_s, lk_bl, tr_bl]
    exact cE0 h _ rfl
/-! ### is_text, are_ascending -/
def isTx : T → Bool
  | .str s => decide (s.length ≤ 60) && isW (.str s)
  | _ => false
theorem sp1 (n : Nat) (v : T) (hv : nr v = true) (h : Hm) : call Φ tf (n + 2) 1 [v] h = .ok (.bl (isTx v)) h := by
  rw [call_eq (d := ⟨1, 1, b1⟩) rfl rfl]
  cases v with
  | str s =>
    have e0 := sp0 n (.str s) hv
    by_cases hs : s.length ≤ 60
    · have hs2 : decide ((s.length : Int) ≤ 60) = true := decide_eq_true (by omega)
      simp only [b1, evSs, evS, evE, evEs, List.map_cons, List.map_nil, List.replicate, List.cons_append, List.nil_append, List.getElem?_cons_zero, R_ok, lk_str, lk_int, lk_bl, tr_bl, isiO, Option.map_some, ofO_s, biO, lenO, lenI, mkF, cmO, hs2, e0]
      have e : isTx (.str s) = isW (.str s) := by simp [isTx, hs]
      rw [e]
      exact cE0 h _ rfl
    · have hs2 : decide ((s.length : Int) ≤ 60) = false := decide_eq_false (by omega)
      simp only [b1, evSs, evS, evE, evEs, List.map_cons, List.map_nil, List.replicate, List.cons_append, List.nil_append, List.getElem?_cons_zero, R_ok, lk_str, lk_int, lk_bl, tr_bl, isiO, Option.map_some, ofO_s, biO, lenO, lenI, mkF, cmO, hs2, e0]
      have e : isTx (.str s) = false := by simp [isTx, hs]
      rw [e]
      exact cE0 h _ rfl
  | ins _ _ _ => simp [nr] at hv
  | ref _ => simp [nr] at hv
  | _ =>
    simp only [b1, evSs, evS, evE, evEs, List.map_cons, List.map_nil, List.replicate, List.cons_append, List.nil_append, List.getElem?_cons_zero, R_ok, look, isiO, Option.map_some, ofO_s, lk_bl, tr_bl]
    exact cE0 h _ rfl
def asc : List Nat → Bool
  | [] => true
  | [_] => true
  | a :: b :: r => decide (a < b) && asc (b :: r)
theorem zip_asc : ∀ s : List Nat, (((zipT (chT s) (chT (s.drop 1))).map fun x => match x with | .tup [.str [a], .str [b]] => decide (a < b) | _ => false).all id) = asc s
  | [] => rfl
  | [_] => rfl
  | a :: b :: r => by
    have ih := zip_asc (b :: r)
    simp only [chT, List.map_cons, List.drop_succ_cons, List.drop_zero, zipT, List.all_cons, id, asc] at ih ⊢
    rw [ih]
theorem zipT_mem : ∀ {xs ys : List T} {x : T}, x ∈ zipT xs ys → ∃ t u, x = .tup [t, u] ∧ t ∈ xs ∧ u ∈ ys
  | [], _, _, h => by simp [zipT] at h
  | _ :: _, [], _, h => by simp [zipT] at h
  | a :: xs, b :: ys, x, h => by
    simp only [zipT, List.mem_cons] at h
    rcases h with rfl | h
    · exact ⟨a, b, rfl, List.mem_cons_self, List.mem_cons_self⟩
    · obtain ⟨t, u, e, h1, h2⟩ := zipT_mem h
      exact ⟨t, u, e, List.mem_cons_of_mem _ h1, List.mem_cons_of_mem _ h2⟩
theorem zipT_le : ∀ xs ys : List T, (zipT xs ys).length ≤ xs.length
  | [], _ => by simp [zipT]
  | _ :: _, [] => by simp [zipT]
  | _ :: xs, _ :: ys => by simp [zipT]; exact zipT_le xs ys
theorem lt1 (a b : Nat) : decide ([a] < [b]) = decide (a < b) := by
  by_cases h : a < b
  · rw [decide_eq_true h, decide_eq_true]
    exact List.Lex.rel h
  · rw [decide_eq_false h, decide_eq_false]
    intro z
    cases z with
    | rel q => exact h q
    | cons q => cases q
theorem cut1 {α : Type} (s : List α) : cutL s (some 1) none = s.drop 1 := by
  unfold cutL cutB
  simp only [Int.reduceLT, if_false, show ((1 : Int) < 0) = False by simp, Int.toNat_one]
  rcases Nat.lt_or_ge s.length 1 with h | h
  · have : s = [] := List.eq_nil_of_length_eq_zero (by omega)
    subst this
    rfl
  · rw [Nat.min_eq_left h]
    exact List.take_of_length_le (by simp)
theorem sp2 (n : Nat) (s : List Nat) (hv : nr (.str s) = true) (h : Hm) : call Φ tf (n + 1) 2 [.str s] h = .ok (.bl (asc s)) h := by
  rw [call_eq (d := ⟨1, 3, b2⟩) rfl rfl]
  have e : ∀ h, evE ⟨call Φ tf n, tf⟩ (.lc false (.u [.v 1, .v 2]) (.zip (.v 0) (.sl false (.v 0) [.c (.int 1)] [])) [] (.cmp .lt (.v 1) (.v 2))) [some (.str s), none, none] h = .ok (.lst ((zipT (chT s) (chT (s.drop 1))).filterMap fun x => some (.bl (match x with | .tup [.str [a], .str [b]] => decide (a < b) | _ => false)))) (h ++ [none]) := fun h => by
    refine ev_lcp _ (by simp only [evI, evE, evEs, List.getElem?_cons_zero, R_ok, lk_str, optI, cutO, cut1, itemsO, ofO_s, mkF]; rfl) (fun x hx h' => ?_) (Nat.lt_of_le_of_lt (zipT_le _ _) (by rw [chT_len]; exact nr_len hv))
    obtain ⟨t, u, rfl, h1, h2⟩ := zipT_mem hx
    obtain ⟨a, _, rfl⟩ := List.mem_map.mp h1
    obtain ⟨b, _, rfl⟩ := List.mem_map.mp h2
    simp only [lcGo, Tg.put, Tg.puts, Option.bind_some, evBs, evE, List.set_cons_succ, List.set_cons_zero, List.getElem?_cons_succ, List.getElem?_cons_zero, R_ok, lk_str, cmO, Option.map_some, ofO_s, if_pos, lt1]
  have e2 : bls ((zipT (chT s) (chT (s.drop 1))).filterMap fun x => some (.bl (match x with | .tup [.str [a], .str [b]] => decide (a < b) | _ => false))) = some ((zipT (chT s) (chT (s.drop 1))).map fun x => match x with | .tup [.str [a], .str [b]] => decide (a < b) | _ => false) := by
    rw [filterMap_some]
    exact bls_map _ _
  simp only [b2, evSs, evS, ↓e, evE, evEs, List.map_cons, List.map_nil, List.replicate, List.cons_append, List.nil_append, R_ok, Option.map_some, ofO_s, lk_lst, biO, e2, zip_asc, mkF]
  exact cE h _ _ rfl
theorem sp3 (n : Nat) (v : T) (hv : nr v = true) (h : Hm) : call Φ tf (n + 3) 3 [v] h = if isTx v then .ok .non h else .exc 1 [] h := by
  rw [call_eq (d := ⟨1, 1, b3⟩) rfl rfl]
  have e := sp1 n v hv
  cases q : isTx v with
  | true =>
    simp only [b3, evSs, evS, evB, evE, evEs, List.map_cons, List.map_nil, List.replicate, List.cons_append, List.nil_append, List.getElem?_cons_zero, R_ok, e, q, lk_bl, tr_bl, ofO_s, Bool.not_true, if_neg Bool.false_ne_true, if_pos]
    exact cN0 h _
  | false =>
    simp only [b3, evSs, evS, evB, evE, evEs, List.map_cons, List.map_nil, List.replicate, List.cons_append, List.nil_append, List.getElem?_cons_zero, R_ok, e, q, lk_bl, tr_bl, ofO_s, Bool.not_false, if_neg Bool.false_ne_true, if_pos, R_exc]
    exact cX0 h _
/-! ### is_item, is_pattern -/
def ONE : List Nat := [111, 110, 101]
def ANY : List Nat := [97, 110, 121]
def isK : T → Bool
  | .str z => z == ONE || z == ANY
  | _ => false
def isIt : T → Bool
  | .tup [.str s, k] => isW (.str s) && (!s.isEmpty && (asc s && isK k))
  | _ => false
theorem ss_step {Γ : Env} {st : St} {ss : List St} {σ σ' : Sl} {h h' : Hm} (e : evS Γ st σ h = .ok (.next σ') h') : evSs Γ (st :: ss) σ h = evSs Γ ss σ' h' := by rw [evSs, e]; rfl
theorem ss_ret {Γ : Env} {st : St} {ss : List St} {σ : Sl} {t : T} {h h' : Hm} (e : evS Γ st σ h = .ok (.ret t) h') : evSs Γ (st :: ss) σ h = .ok (.ret t) h' := by rw [evSs, e]; rfl
theorem two : (((0 + 1 + 1 : Nat) : Int) == 2) = true := rfl
theorem eqi (a b : Int) : eqO (.int a) (.int b) = some (a == b) := rfl
theorem eqs (a b : List Nat) : eqO (.str a) (.str b) = some (a == b) := rfl
theorem nr2 {l : List T} (h : nr (.tup l) = true) : ∀ t ∈ l, nr t = true := by
  simp only [nr, Bool.and_eq_true] at h
  have go : ∀ l : List T, nrs l = true → ∀ t ∈ l, nr t = true := by
    intro l
    induction l with
    | nil => intro _ t ht; cases ht
    | cons a l ih =>
      intro h t ht
      simp only [nrs, Bool.and_eq_true] at h
      rcases List.mem_cons.mp ht with rfl | ht
      · exact h.1
      · exact ih h.2 t ht
  exact go l h.2
theorem ixz (a : T) (l : List T) : ixO (.tup (a :: l)) (.int 0) = some a := by
  simp [ixO, atI, ixN]
theorem ix1 (a b : T) (l : List T) : ixO (.tup (a :: b :: l)) (.int 1) = some b := by
  have : (1 : Int) < ((l.length : Int) + 1 + 1) := by omega
  simp [ixO, atI, ixN, this]
theorem inK (z : List Nat) : inO (.str z) (.tup [.str [111, 110, 101], .str [97, 110, 121]]) = some (isK (.str z)) := by
  have e : inO (.str z) (.tup [.str [111, 110, 101], .str [97, 110, 121]]) = some ([111, 110, 101] == z || ([97, 110, 121] == z || false)) := rfl
  rw [e]
  simp only [isK, ONE, ANY, Bool.or_false]
  rw [Bool.beq_comm (a := z), Bool.beq_comm (a := z)]
theorem isi_t {v : T} (hv : nr v = true) : (∃ l, v = .tup l ∧ isiO v .tuple = some true) ∨ (isiO v .tuple = some false ∧ isIt v = false ∧ ∀ h, look h v = v) := by
  cases v with
  | tup l => exact .inl ⟨l, rfl, rfl⟩
  | ins _ _ _ => simp [nr] at hv
  | ref _ => simp [nr] at hv
  | _ => exact .inr ⟨rfl, rfl, fun _ => rfl⟩
theorem isi_k {k : T} (hv : nr k = true) : (∃ z, k = .str z ∧ isiO k .str = some true) ∨ (isiO k .str = some false ∧ isK k = false ∧ ∀ h, look h k = k) := by
  cases k with
  | str l => exact .inl ⟨l, rfl, rfl⟩
  | ins _ _ _ => simp [nr] at hv
  | ref _ => simp [nr] at hv
  | _ => exact .inr ⟨rfl, rfl, fun _ => rfl⟩
theorem sp4 (n : Nat) (v : T) (hv : nr v = true) (h : Hm) : call Φ tf (n + 2) 4 [v] h = .ok (.bl (isIt v)) h := by
  rw [call_eq (d := ⟨1, 1, b4⟩) rfl rfl]
  rcases isi_t hv with ⟨l, rfl, hi⟩ | ⟨hi, e, lk⟩
  · by_cases h2 : l.length = 2
    · obtain ⟨a, k, rfl⟩ : ∃ a k, l = [a, k] := by
        match l, h2 with
        | [a, k], _ => exact ⟨a, k, rfl⟩
      have ha := nr2 hv a (by simp)
      have hk := nr2 hv k (by simp)
      have e0 := sp0 n a ha
      cases q : isW a with
      | false =>
        have e : isIt (.tup [a, k]) = false := by cases a <;> first | rfl | simp [isIt, q]
        rw [e]
        simp only [b4, evSs, evS, evB, evE, evEs, evI, List.map_cons, List.map_nil, List.replicate, List.cons_append, List.nil_append, List.getElem?_cons_zero, List.getElem?_cons_succ, List.set_cons_zero, List.set_cons_succ, R_ok, R_exc, lk_str, lk_int, lk_bl, lk_non, lk_tup, lk_lst, tr_bl, Option.map_some, ofO_s, mkF, if_pos, if_neg Bool.false_ne_true, Bool.not_true, Bool.not_false, Tg.put, Tg.puts, Option.bind_some, hi, biO, lenO, lenI, cmO, eqi, ixz, e0, q, List.length_cons, List.length_nil, two]
        exact cE0 h _ rfl
      | true =>
        obtain ⟨s, rfl⟩ : ∃ s, a = .str s := by cases a <;> first | exact ⟨_, rfl⟩ | (simp [isW] at q; done)
        by_cases hs : s = []
        · subst hs
          simp only [b4, evSs, evS, evB, evE, evEs, evI, List.map_cons, List.map_nil, List.replicate, List.cons_append, List.nil_append, List.getElem?_cons_zero, List.getElem?_cons_succ, List.set_cons_zero, List.set_cons_succ, R_ok, R_exc, lk_str, lk_int, lk_bl, lk_non, lk_tup, lk_lst, tr_bl, Option.map_some, ofO_s, mkF, if_pos, if_neg Bool.false_ne_true, Bool.not_true, Bool.not_false, Tg.put, Tg.puts, Option.bind_some, hi, biO, lenO, lenI, cmO, eqi, eqs, ixz, e0, q, List.length_cons, List.length_nil, two]
          exact cE0 h _ rfl
        · have hs' : (s == []) = false := by cases s <;> first | rfl | exact absurd rfl hs
          have hs2 : s.isEmpty = false := by cases s <;> first | rfl | exact absurd rfl hs
          have e2 := sp2 n s ha
          cases qa : asc s with
          | false =>
            have e : isIt (.tup [.str s, k]) = false := by simp [isIt, qa]
            rw [e]
            simp only [b4, evSs, evS, evB, evE, evEs, evI, List.map_cons, List.map_nil, List.replicate, List.cons_append, List.nil_append, List.getElem?_cons_zero, List.getElem?_cons_succ, List.set_cons_zero, List.set_cons_succ, R_ok, R_exc, lk_str, lk_int, lk_bl, lk_non, lk_tup, lk_lst, tr_bl, Option.map_some, ofO_s, mkF, if_pos, if_neg Bool.false_ne_true, Bool.not_true, Bool.not_false, Tg.put, Tg.puts, Option.bind_some, hi, biO, lenO, lenI, cmO, eqi, eqs, ixz, e0, q, hs', e2, qa, List.length_cons, List.length_nil, two]
            exact cE0 h _ rfl
          | true =>
            have e : isIt (.tup [.str s, k]) = isK k := by simp [isIt, qa, q, hs2]
            rw [e]
            rcases isi_k hk with ⟨z, rfl, hi2⟩ | ⟨hi2, e, lk⟩
            · simp only [b4, evSs, evS, evB, evE, evEs, evI, List.map_cons, List.map_nil, List.replicate, List.cons_append, List.nil_append, List.getElem?_cons_zero, List.getElem?_cons_succ, List.set_cons_zero, List.set_cons_succ, R_ok, R_exc, lk_str, lk_int, lk_bl, lk_non, lk_tup, lk_lst, tr_bl, Option.map_some, ofO_s, mkF, if_pos, if_neg Bool.false_ne_true, Bool.not_true, Bool.not_false, Tg.put, Tg.puts, Option.bind_some, hi, hi2, biO, lenO, lenI, cmO, eqi, eqs, ixz, ix1, e0, q, hs', e2, qa, List.length_cons, List.length_nil, two, inK]
              exact cE0 h _ rfl
            · rw [e]
              simp only [b4, evSs, evS, evB, evE, evEs, evI, List.map_cons, List.map_nil, List.replicate, List.cons_append, List.nil_append, List.getElem?_cons_zero, List.getElem?_cons_succ, List.set_cons_zero, List.set_cons_succ, R_ok, R_exc, lk_str, lk_int, lk_bl, lk_non, lk_tup, lk_lst, tr_bl, Option.map_some, ofO_s, mkF, if_pos, if_neg Bool.false_ne_true, Bool.not_true, Bool.not_false, Tg.put, Tg.puts, Option.bind_some, hi, hi2, biO, lenO, lenI, cmO, eqi, eqs, ixz, ix1, e0, q, hs', e2, qa, List.length_cons, List.length_nil, two, lk]
              exact cE0 h _ rfl
    · have e : isIt (.tup l) = false := by
        match l, h2 with
        | [], _ => rfl
        | [a], _ => cases a <;> rfl
        | [_, _], h2 => exact absurd rfl h2
        | a :: _ :: _ :: _, _ => cases a <;> rfl
      rw [e]
      have hn : ((l.length : Int) == 2) = false := beq_eq_false_iff_ne.mpr (by omega)
      simp only [b4, evSs, evS, evB, evE, evEs, evI, List.map_cons, List.map_nil, List.replicate, List.cons_append, List.nil_append, List.getElem?_cons_zero, List.getElem?_cons_succ, List.set_cons_zero, List.set_cons_succ, R_ok, R_exc, lk_str, lk_int, lk_bl, lk_non, lk_tup, lk_lst, tr_bl, Option.map_some, ofO_s, mkF, if_pos, if_neg Bool.false_ne_true, Bool.not_true, Bool.not_false, Tg.put, Tg.puts, Option.bind_some, hi, biO, lenO, lenI, cmO, eqi, hn]
      exact cE0 h _ rfl
  · rw [e]
    simp only [b4, evSs, evS, evB, evE, evEs, evI, List.map_cons, List.map_nil, List.replicate, List.cons_append, List.nil_append, List.getElem?_cons_zero, List.getElem?_cons_succ, List.set_cons_zero, List.set_cons_succ, R_ok, R_exc, lk_str, lk_int, lk_bl, lk_non, lk_tup, lk_lst, tr_bl, Option.map_some, ofO_s, mkF, if_pos, if_neg Bool.false_ne_true, Bool.not_true, Bool.not_false, Tg.put, Tg.puts, Option.bind_some, hi, lk]
    exact cE0 h _ rfl
def isP : T → Bool
  | .tup [.tup l, .bl _] => decide (l.length ≤ 3) && l.all isIt
  | _ => false
theorem isi_b {k : T} (hv : nr k = true) : (∃ z, k = .bl z ∧ isiO k .bool = some true) ∨ (isiO k .bool = some false ∧ (∀ a, isP (.tup [a, k]) = false) ∧ ∀ h, look h k = k) := by
  cases k with
  | bl l => exact .inl ⟨l, rfl, rfl⟩
  | ins _ _ _ => simp [nr] at hv
  | ref _ => simp [nr] at hv
  | _ => exact .inr ⟨rfl, fun a => by cases a <;> rfl, fun _ => rfl⟩
theorem isi_t2 {v : T} (hv : nr v = true) : (∃ l, v = .tup l ∧ isiO v .tuple = some true) ∨ (isiO v .tuple = some false ∧ (isP v = false ∧ ∀ k, isP (.tup [v, k]) = false) ∧ ∀ h, look h v = v) := by
  cases v with
  | tup l => exact .inl ⟨l, rfl, rfl⟩
  | ins _ _ _ => simp [nr] at hv
  | ref _ => simp [nr] at hv
  | _ => exact .inr ⟨rfl, ⟨rfl, fun k => rfl⟩, fun _ => rfl⟩
theorem sp5 (n : Nat) (v : T) (hv : nr v = true) (h : Hm) : call Φ tf (n + 3) 5 [v] h = .ok (.bl (isP v)) h := by
  rw [call_eq (d := ⟨1, 3, b5⟩) rfl rfl]
  rcases isi_t2 hv with ⟨l, rfl, hi⟩ | ⟨hi, ⟨e, _⟩, lk⟩
  · by_cases h2 : l.length = 2
    · obtain ⟨a, k, rfl⟩ : ∃ a k, l = [a, k] := by
        match l, h2 with
        | [a, k], _ => exact ⟨a, k, rfl⟩
      have ha := nr2 hv a (by simp)
      have hk := nr2 hv k (by simp)
      rcases isi_b hk with ⟨z, rfl, hi2⟩ | ⟨hi2, e, lk⟩
      · rcases isi_t2 ha with ⟨l, rfl, hi3⟩ | ⟨hi3, ⟨_, e⟩, lk⟩
        · by_cases h3 : l.length ≤ 3
          · have hs : decide ((l.length : Int) ≤ 3) = true := decide_eq_true (by omega)
            have e : ∀ h, evE ⟨call Φ tf (n + 2), tf⟩ (.lc false (.v 2) (.e (.v 1)) [] (.call 4 [.v 2])) [some (.tup [.tup l, .bl z]), some (.tup l), none] h = .ok (.lst (l.filterMap fun x => some (.bl (isIt x)))) (h ++ [none]) := fun h => by
              refine ev_lcp _ (by simp only [evSs, evS, evB, evE, evEs, evI, List.map_cons, List.map_nil, List.replicate, List.cons_append, List.nil_append, List.getElem?_cons_zero, List.getElem?_cons_succ, List.set_cons_zero, List.set_cons_succ, R_ok, R_exc, lk_str, lk_int, lk_bl, lk_non, lk_tup, lk_lst, tr_bl, Option.map_some, ofO_s, mkF, if_pos, if_neg Bool.false_ne_true, Bool.not_true, Bool.not_false, Tg.put, Tg.puts, Option.bind_some, itemsO]) (fun x hx h' => ?_) (Nat.lt_of_le_of_lt h3 (by decide))
              simp only [lcGo, evBs, evSs, evS, evB, evE, evEs, evI, List.map_cons, List.map_nil, List.replicate, List.cons_append, List.nil_append, List.getElem?_cons_zero, List.getElem?_cons_succ, List.set_cons_zero, List.set_cons_succ, R_ok, R_exc, lk_str, lk_int, lk_bl, lk_non, lk_tup, lk_lst, tr_bl, Option.map_some, ofO_s, mkF, if_pos, if_neg Bool.false_ne_true, Bool.not_true, Bool.not_false, Tg.put, Tg.puts, Option.bind_some, sp4 n x (nr2 ha x hx)]
            have e2 : bls (l.filterMap fun x => some (.bl (isIt x))) = some (l.map isIt) := by
              rw [filterMap_some]
              exact bls_map _ _
            have e3 : isP (.tup [.tup l, .bl z]) = l.all isIt := by simp [isP, h3]
            have e4 : (l.map isIt).all id = l.all isIt := by rw [List.all_map]; rfl
            rw [e3, b5, ss_step (h' := h) (σ' := [some (.tup [.tup l, .bl z]), none, none]) (by simp only [evSs, evS, evB, evE, evEs, evI, List.map_cons, List.map_nil, List.replicate, List.cons_append, List.nil_append, List.getElem?_cons_zero, List.getElem?_cons_succ, List.set_cons_zero, List.set_cons_succ, R_ok, R_exc, lk_str, lk_int, lk_bl, lk_non, lk_tup, lk_lst, tr_bl, Option.map_some, ofO_s, mkF, if_pos, if_neg Bool.false_ne_true, Bool.not_true, Bool.not_false, Tg.put, Tg.puts, Option.bind_some, hi, hi2, hi3, biO, lenO, lenI, cmO, eqi, ixz, ix1, hs, List.length_cons, List.length_nil, two, e2, e4]), ss_step (h' := h) (σ' := [some (.tup [.tup l, .bl z]), some (.tup l), none]) (by simp only [evSs, evS, evB, evE, evEs, evI, List.map_cons, List.map_nil, List.replicate, List.cons_append, List.nil_append, List.getElem?_cons_zero, List.getElem?_cons_succ, List.set_cons_zero, List.set_cons_succ, R_ok, R_exc, lk_str, lk_int, lk_bl, lk_non, lk_tup, lk_lst, tr_bl, Option.map_some, ofO_s, mkF, if_pos, if_neg Bool.false_ne_true, Bool.not_true, Bool.not_false, Tg.put, Tg.puts, Option.bind_some, hi, hi2, hi3, biO, lenO, lenI, cmO, eqi, ixz, ix1, hs, List.length_cons, List.length_nil, two, e2, e4])]
            simp only [evSs, evS, evB, evE, evEs, evI, List.map_cons, List.map_nil, List.replicate, List.cons_append, List.nil_append, List.getElem?_cons_zero, List.getElem?_cons_succ, List.set_cons_zero, List.set_cons_succ, R_ok, R_exc, lk_str, lk_int, lk_bl, lk_non, lk_tup, lk_lst, tr_bl, Option.map_some, ofO_s, mkF, if_pos, if_neg Bool.false_ne_true, Bool.not_true, Bool.not_false, Tg.put, Tg.puts, Option.bind_some, ↓e, hi, hi2, hi3, biO, lenO, lenI, cmO, eqi, ixz, ix1, hs, List.length_cons, List.length_nil, two, e2, e4]
            exact cE h _ _ rfl
          · have hs : decide ((l.length : Int) ≤ 3) = false := decide_eq_false (by omega)
            have e3 : isP (.tup [.tup l, .bl z]) = false := by simp [isP, h3]
            rw [e3]
            simp only [b5, evSs, evS, evB, evE, evEs, evI, List.map_cons, List.map_nil, List.replicate, List.cons_append, List.nil_append, List.getElem?_cons_zero, List.getElem?_cons_succ, List.set_cons_zero, List.set_cons_succ, R_ok, R_exc, lk_str, lk_int, lk_bl, lk_non, lk_tup, lk_lst, tr_bl, Option.map_some, ofO_s, mkF, if_pos, if_neg Bool.false_ne_true, Bool.not_true, Bool.not_false, Tg.put, Tg.puts, Option.bind_some, hi, hi2, hi3, biO, lenO, lenI, cmO, eqi, ixz, ix1, hs, List.length_cons, List.length_nil, two]
            exact cE0 h _ rfl
        · rw [e]
          simp only [b5, evSs, evS, evB, evE, evEs, evI, List.map_cons, List.map_nil, List.replicate, List.cons_append, List.nil_append, List.getElem?_cons_zero, List.getElem?_cons_succ, List.set_cons_zero, List.set_cons_succ, R_ok, R_exc, lk_str, lk_int, lk_bl, lk_non, lk_tup, lk_lst, tr_bl, Option.map_some, ofO_s, mkF, if_pos, if_neg Bool.false_ne_true, Bool.not_true, Bool.not_false, Tg.put, Tg.puts, Option.bind_some, hi, hi2, hi3, biO, lenO, lenI, cmO, eqi, ixz, ix1, List.length_cons, List.length_nil, two, lk]
          exact cE0 h _ rfl
      · rw [e]
        simp only [b5, evSs, evS, evB, evE, evEs, evI, List.map_cons, List.map_nil, List.replicate, List.cons_append, List.nil_append, List.getElem?_cons_zero, List.getElem?_cons_succ, List.set_cons_zero, List.set_cons_succ, R_ok, R_exc, lk_str, lk_int, lk_bl, lk_non, lk_tup, lk_lst, tr_bl, Option.map_some, ofO_s, mkF, if_pos, if_neg Bool.false_ne_true, Bool.not_true, Bool.not_false, Tg.put, Tg.puts, Option.bind_some, hi, hi2, biO, lenO, lenI, cmO, eqi, ixz, ix1, List.length_cons, List.length_nil, two, lk]
        exact cE0 h _ rfl
    · have e : isP (.tup l) = false := by
        match l, h2 with
        | [], _ => rfl
        | [a], _ => cases a <;> rfl
        | [_, _], h2 => exact absurd rfl h2
        | a :: b :: _ :: _, _ => cases a <;> cases b <;> rfl
      rw [e]
      have hn : ((l.length : Int) == 2) = false := beq_eq_false_iff_ne.mpr (by omega)
      simp only [b5, evSs, evS, evB, evE, evEs, evI, List.map_cons, List.map_nil, List.replicate, List.cons_append, List.nil_append, List.getElem?_cons_zero, List.getElem?_cons_succ, List.set_cons_zero, List.set_cons_succ, R_ok, R_exc, lk_str, lk_int, lk_bl, lk_non, lk_tup, lk_lst, tr_bl, Option.map_some, ofO_s, mkF, if_pos, if_neg Bool.false_ne_true, Bool.not_true, Bool.not_false, Tg.put, Tg.puts, Option.bind_some, hi, biO, lenO, lenI, cmO, eqi, hn]
      exact cE0 h _ rfl
  · rw [e]
    simp only [b5, evSs, evS, evB, evE, evEs, evI, List.map_cons, List.map_nil, List.replicate, List.cons_append, List.nil_append, List.getElem?_cons_zero, List.getElem?_cons_succ, List.set_cons_zero, List.set_cons_succ, R_ok, R_exc, lk_str, lk_int, lk_bl, lk_non, lk_tup, lk_lst, tr_bl, Option.map_some, ofO_s, mkF, if_pos, if_neg Bool.false_ne_true, Bool.not_true, Bool.not_false, Tg.put, Tg.puts, Option.bind_some, hi, lk]
    exact cE0 h _ rfl
theorem sp12 (n : Nat) (v : T) (hv : nr v = true) (h : Hm) : call Φ tf (n + 4) 12 [v] h = if isP v then .ok .non h else .exc 2 [] h := by
  rw [call_eq (d := ⟨1, 1, b12⟩) rfl rfl]
  have e := sp5 n v hv
  cases q : isP v with
  | true =>
    simp only [b12, evSs, evS, evB, evE, evEs, evI, List.map_cons, List.map_nil, List.replicate, List.cons_append, List.nil_append, List.getElem?_cons_zero, List.getElem?_cons_succ, List.set_cons_zero, List.set_cons_succ, R_ok, R_exc, lk_str, lk_int, lk_bl, lk_non, lk_tup, lk_lst, tr_bl, Option.map_some, ofO_s, mkF, if_pos, if_neg Bool.false_ne_true, Bool.not_true, Bool.not_false, Tg.put, Tg.puts, Option.bind_some, e, q]
    exact cN0 h _
  | false =>
    simp only [b12, evSs, evS, evB, evE, evEs, evI, List.map_cons, List.map_nil, List.replicate, List.cons_append, List.nil_append, List.getElem?_cons_zero, List.getElem?_cons_succ, List.set_cons_zero, List.set_cons_succ, R_ok, R_exc, lk_str, lk_int, lk_bl, lk_non, lk_tup, lk_lst, tr_bl, Option.map_some, ofO_s, mkF, if_pos, if_neg Bool.false_ne_true, Bool.not_true, Bool.not_false, Tg.put, Tg.puts, Option.bind_some, e, q]
    exact cX0 h _
end K60
end
/-! part K60c -/
section
set_option Elab.async false
set_option linter.all false
set_option maxRecDepth 100000
set_option maxHeartbeats 0
/-! K60c: the catcher of law k60. -/
namespace K60
open PySem PySem.Spec PyProof.Rows L2 Tw Hd

/-! ### list.count of flat items -/
def rCntV (K : PySem.W.Frag) : V → List V → Hp → VK → Prop := fun x xs H Q => ∃ (p : Addr) (ys : List V) (y : V), x = .ref p ∧ xs = [y] ∧ SqL K H p ys ∧ flatV y = true ∧ ys.all flatV = true ∧ Q (.int ((ys.countP fun z => eqV z y : Nat) : Int)) H
theorem countP_eqU {y : V} : ∀ {ys : List V} {us : List Value}, Vals ys us → ys.all flatV = true → us.countP (eqU y) = ys.countP fun z => eqV z y
  | _, _, .nil, _ => rfl
  | y' :: ys, u :: us, .cons r t, f => by
    rw [List.all_cons, Bool.and_eq_true] at f
    rw [List.countP_cons, List.countP_cons, countP_eqU t f.2, eqU_of r f.1]
theorem mt_cnt {X : Cx} : MtR X "list.count" (rCntV X.K) := by
  intro pins s σ H x xs v us Q I rx rxs h
  obtain ⟨p, ys, y, rfl, rfl, hs, fy, fys, q⟩ := h
  cases rx
  obtain ⟨u, rfl, ru⟩ := rxs.one
  obtain ⟨its, rv, ⟨⟨cls, dd, data, sl⟩, n, ho, hc, hdn, hd⟩, hlen⟩ := I.list hs
  simp only at hc hd
  subst hc hd
  refine call_meets PySem.F.slot_list_count ⟨_, ho, rfl⟩ PySem.F.entry_list_count (PySem.F.args_list_count_2 _ _)
    (SeqAt.list_countAt p its.toArray n dd sl u (eqU y)) ⟨ho, fun z hz => (mem_eqAt ru fy rv fys z (by simpa using hz)), ?_⟩
  refine ⟨.int _, H, I.tok _, ⟨s.toks, ?_⟩, q⟩
  have e := countP_eqU (y := y) rv fys
  show Value.int ((its.toArray.toList.countP (eqU y) : Nat) : Int) s.toks = _
  rw [← e]

abbrev sTold : Stmt := s25
def bTold : List Stmt := defBody sTold
def suiteB : List Stmt := match bTold with
  | .Try _ (.ExceptHandler _ _ b _ :: _) _ _ _ :: _ => b
  | _ => []
abbrev NT : List PySem.Str := ["_law_call", "e", "_law_kinds"]
theorem ST : FnScope NT ["_law_call"] (defScope sTold) := C8.fnScope_by (by decide +kernel)
section
variable {P : Program} {w : World} {K : PySem.W.Frag} {mg : PySem.Str → Option Value} {base : Heap} {f : Addr} {cdv : Value} {A : Around} {outer : List PySem.Env} {s : Shared} {H : Hp}
abbrev XT (P : Program) (w : World) (K : PySem.W.Frag) (mg : PySem.Str → Option Value) (base : Heap) (f : Addr) (cdv : Value) (A : Around) (outer : List PySem.Env) (s : Shared) (H : Hp) : Cx := (cxOf C8.CX0 P w K mg base NT "_law_told" (defScope sTold) f cdv A outer s H C8.E0).nox
/-- what the catcher makes of a call -/
def TT (K : PySem.W.Frag) (BK TX : Addr) : (XK → Hp → VK → Prop) → Hp → VK → Prop := fun tl H Q =>
  tl (fun cls d H' => d = none ∧ ((cls = .ref BK ∧ ∀ H'', (∀ b o, H' b = some o → H'' b = some o) → Q (.str (tx [98, 111, 111, 107])) H'') ∨ (cls = .ref TX ∧ ∀ H'', (∀ b o, H' b = some o → H'' b = some o) → Q (.str (tx [116, 101, 120, 116])) H''))) H (fun _ H' => Q (.str (tx [114, 101, 116, 117, 114, 110, 101, 100])) H')
theorem told_gives {X : Cx} {q : PySem.Str} {g ME BK TX : Addr} {cdg : Value} (hME : X.mg "MarkError" = some (.ref ME)) (hBK : X.mg "InvalidBook" = some (.ref BK)) (hTX : X.mg "InvalidText" = some (.ref TX)) (hI : X.mg "isinstance" = none)
    (xB : PySem.W.exmOne X.K (.ref BK) (.ref ME) = some true) (xT : PySem.W.exmOne X.K (.ref TX) (.ref ME) = some true) (eB : ExcC X.K BK) (eT : ExcC X.K TX)
    (kBB : PySem.W.kitOne X.K (.ref BK) (.ref BK) = some true) (kBT : PySem.W.kitOne X.K (.ref BK) (.ref TX) = some false) (kTB : PySem.W.kitOne X.K (.ref TX) (.ref BK) = some false) (kTT : PySem.W.kitOne X.K (.ref TX) (.ref TX) = some true) :
    LamX.GivesTo X NT "_law_told" (defScope sTold) g cdg bTold "_law_call" q (TT X.K BK TX) := by
  intro f c' s H Q tl act hc h
  have suite : ∀ (D a : Addr) (oe : Obj) (pn : List (Addr × Obj)) (C : ExcC X.K D) (hz : Zc (.ref D) none oe) (hf : ∃ vs, oe.data = .fields vs), ∃ t : TS, PSs ((cxOf C8.CX0 X.prog X.w X.K X.mg X.base NT "_law_told" (defScope sTold) g cdg X.A X.stack s H C8.E0).nox.suite a ((a, oe) :: pn)) suiteB t ∧
      ∀ (Dn : Ends) (σ : L2.St) (H1 : Hp), (∃ i y, σ = [i, some (.ref a), y]) → ∀ b1 b2 z, PySem.W.kitOne X.K (.ref D) (.ref BK) = some b1 → PySem.W.kitOne X.K (.ref D) (.ref TX) = some b2 → ((b1 = true ∧ b2 = false ∧ z = [98, 111, 111, 107]) ∨ (b1 = false ∧ b2 = true ∧ z = [116, 101, 120, 116])) →
        (∀ H2, (∀ b o, H1 b = some o → H2 b = some o) → Dn.rt (.str (tx z)) H2) → t Dn σ H1 := fun D a oe pn C hz hf => by
    refine ⟨_, pss_cons (ps_set (i := 2) ST.nd rfl (Or.inl rfl) (pe_lst (pa_cons (pe_callB (call_isE C hz hf) rfl hI rfl (pa_cons (pv 1) (pa_cons (pe_glob (v := .ref BK) rfl hBK rfl) pa_nil))) (pa_cons (pe_callB (call_isE C hz hf) rfl hI rfl (pa_cons (pv 1) (pa_cons (pe_glob (v := .ref TX) rfl hTX rfl) pa_nil))) pa_nil))))
      (pss_one (ps_ret (pe_ifExp (pt_cmpR op_eq (pe_bm PySem.F.plainAttrs_list PySem.F.slot_list_count PySem.F.type_list_count mt_cnt (pv 2) (pa_cons pe_bl pa_nil)) pe_int (nomark _))
        (pe_ix ix_list (pe_lst (pa_cons pe_str (pa_cons pe_str pa_nil))) (pe_bm PySem.F.plainAttrs_list PySem.F.slot_list_index PySem.F.type_list_index mt_index (pv 2) (pa_cons pe_bl pa_nil)) (fun _ _ => rfl)) pe_str))), ?_⟩
    rintro Dn σ H1 ⟨i, y, rfl⟩ b1 b2 z h1 h2 hb k
    refine ⟨.ref a, rfl, .ref BK, .ref BK, b1, rfl, fun u r => r, h1, .ref a, rfl, .ref TX, .ref TX, b2, rfl, fun u r => r, h2, by show 2 ≤ sizeLine; decide, fun p hp => ?_⟩
    have at2 : ([i, some (V.ref a), y].set 2 (some (V.ref p)))[2]? = some (some (V.ref p)) := rfl
    have hL : SqL X.K (upd H1 p (.lst [.bl b1, .bl b2])) p [.bl b1, .bl b2] := .of upd_same
    refine ⟨_, at2, .inl ⟨rfl, _, hL⟩, p, [.bl b1, .bl b2], .bl true, rfl, rfl, hL, rfl, rfl, ?_⟩
    rcases hb with ⟨rfl, rfl, rfl⟩ | ⟨rfl, rfl, rfl⟩
    · refine ⟨rfl, true, rfl, ?_⟩
      show if true = true then _ else _
      rw [if_pos rfl]
      refine ⟨by show 2 ≤ sizeLine; decide, fun p2 hp2 => ?_⟩
      have ne : p ≠ p2 := ne_of_none upd_same hp2
      have hL2 : SqL X.K (upd (upd H1 p (.lst [.bl true, .bl false])) p2 (.lst [.str "book", .str "text"])) p [.bl true, .bl false] := .of (by rw [upd_ne ne]; exact upd_same)
      refine ⟨_, at2, .inl ⟨rfl, _, hL2⟩, p, [.bl true, .bl false], .bl true, 0, .bl true, rfl, rfl, hL2, rfl, rfl, rfl, rfl, fun m z' hm => absurd hm (Nat.not_lt_zero m), p2, [.str "book", .str "text"], 0, .str "book", rfl, rfl, .of upd_same, rfl, k _ fun b o e => ?_⟩
      rw [upd_ne, upd_ne (ne_of_none e hp)]
      · exact e
      · exact ne_of_none (show upd H1 p (.lst [.bl true, .bl false]) b = some o by rw [upd_ne (ne_of_none e hp)]; exact e) hp2
    · refine ⟨rfl, true, rfl, ?_⟩
      show if true = true then _ else _
      rw [if_pos rfl]
      refine ⟨by show 2 ≤ sizeLine; decide, fun p2 hp2 => ?_⟩
      have ne : p ≠ p2 := ne_of_none upd_same hp2
      have hL2 : SqL X.K (upd (upd H1 p (.lst [.bl false, .bl true])) p2 (.lst [.str "book", .str "text"])) p [.bl false, .bl true] := .of (by rw [upd_ne ne]; exact upd_same)
      refine ⟨_, at2, .inl ⟨rfl, _, hL2⟩, p, [.bl false, .bl true], .bl true, 1, .bl true, rfl, rfl, hL2, rfl, rfl, rfl, rfl, fun m z' hm e => ?_, p2, [.str "book", .str "text"], 1, .str "text", rfl, rfl, .of upd_same, rfl, k _ fun b o e => ?_⟩
      · have hm0 : m = 0 := by omega
        subst hm0
        cases e
        rfl
      · rw [upd_ne, upd_ne (ne_of_none e hp)]
        · exact e
        · exact ne_of_none (show upd H1 p (.lst [.bl false, .bl true]) b = some o by rw [upd_ne (ne_of_none e hp)]; exact e) hp2
  refine ⟨_, pss_cons (ps_try_as (X := (cxOf C8.CX0 X.prog X.w X.K X.mg X.base NT "_law_told" (defScope sTold) g cdg X.A X.stack s H C8.E0).nox) (i := 1) (c := .ref ME)
      (tb := fun W D σ H => ∃ Ech : XK, (∀ cls d σ' H', Ech cls d H' → W cls d σ' H') ∧ σ[0]? = some (some (.ref f)) ∧ H c' = some (LamX.CodeO c' q) ∧ tl Ech H fun _ H1 => D.nx σ H1)
      (ts := fun a cls d Dn σ H1 => ∃ D, cls = .ref D ∧ d = none ∧ ExcC X.K D ∧ (∃ σ' : L2.St, σ = σ'.set 1 (some (.ref a))) ∧ ∃ b1 b2 z, PySem.W.kitOne X.K (.ref D) (.ref BK) = some b1 ∧ PySem.W.kitOne X.K (.ref D) (.ref TX) = some b2 ∧ ((b1 = true ∧ b2 = false ∧ z = [98, 111, 111, 107]) ∨ (b1 = false ∧ b2 = true ∧ z = [116, 101, 120, 116])) ∧
        (∀ H2, (∀ b o, H1 b = some o → H2 b = some o) → Dn.rt (.str (tx z)) H2))
      rfl rfl ST.nd rfl rfl ⟨rfl, by decide, .inl hME⟩ LamX.takes0 (fun W pn xe tk _ => ?_) (fun a oe cls d pn hz hf => ?_)) (pss_one (ps_ret pe_str)), ?_⟩
  · refine ⟨fun pins s' σ H' D I h' => ?_⟩
    obtain ⟨Ech, hW, h1, h2, h3⟩ := h'
    exact (pss_one (ps_expr (act W pn xe Ech _ _ tk hW))).run pins s' σ H' D I ⟨h1, h2, h3⟩
  · refine ⟨fun pins s' σ H' Dn I h' => ?_⟩
    obtain ⟨D, rfl, rfl, hE, hσ, b1, b2, z, q1, q2, q3, q4⟩ := h'
    obtain ⟨t, ht, hk⟩ := suite D a oe pn hE hz hf
    refine ht.run pins s' σ H' Dn I (hk Dn σ H' ?_ b1 b2 z q1 q2 q3 q4)
    obtain ⟨σ', rfl⟩ := hσ
    have hl : (σ'.set 1 (some (V.ref a))).length = 3 := I.len
    rw [List.length_set] at hl
    match σ', hl with
    | [x, y, z], _ => exact ⟨x, z, rfl⟩
  · refine ⟨fun cls d H' => d = none ∧ ((cls = .ref BK ∧ ∀ H'', (∀ b o, H' b = some o → H'' b = some o) → Q (.str (tx [98, 111, 111, 107])) H'') ∨ (cls = .ref TX ∧ ∀ H'', (∀ b o, H' b = some o → H'' b = some o) → Q (.str (tx [116, 101, 120, 116])) H'')), fun cls d σ' H' ⟨e, k⟩ => ?_, rfl, hc, h⟩
    rcases k with ⟨rfl, k⟩ | ⟨rfl, k⟩
    · exact ⟨true, xB, fun _ a ha => ⟨BK, rfl, e, eB, ⟨σ', rfl⟩, true, false, _, kBB, kBT, .inl ⟨rfl, rfl, rfl⟩, k⟩, fun z => Bool.noConfusion z⟩
    · exact ⟨true, xT, fun _ a ha => ⟨TX, rfl, e, eT, ⟨σ', rfl⟩, false, true, _, kTB, kTT, .inr ⟨rfl, rfl, rfl⟩, k⟩, fun z => Bool.noConfusion z⟩
end
end K60
end
/-! part K60q -/
section
set_option Elab.async false
set_option linter.all false
set_option maxRecDepth 100000
set_option maxHeartbeats 0
/-! K60q: all functions of law k60 at every depth; the law's end. Printed in part by gen_end.py. -/
namespace K60
open PySem PySem.Spec PyProof.Rows L2 Tw Hd
def cnm : Nat → PySem.Str
  | 0 => "MarkError"
  | 1 => "InvalidText"
  | _ => "InvalidBook"
def GK (K : PySem.W.Frag) : Gx := ⟨K, fun i => He.ga K (cnm i), fun _ => "", [((He.cT K ("_law_refused_right", none)).2, (("_law_refused_right" : PySem.Str) ++ (".<locals>." : PySem.Str)) ++ ("<lambda>" : PySem.Str))]⟩
/-- the catcher's facts wherever the lambdas are made -/
def CatAll (P : Program) (w : World) (K : PySem.W.Frag) (mg : PySem.Str → Option Value) (base : Heap) : Prop := ∀ (n : Nat) (cdv : Value) (A : Around) (outer : List PySem.Env) (s : Shared) (H : Hp) (E : XK),
  (∃ oc od osl fd', K.lookup (He.fAd K ("_law_refused_right", none)) = some ⟨oc, od, .func fd', osl⟩ ∧ fd'.code = cdv ∧ PySem.W.codeIn K cdv "_law_refused_right" = true) →
  Room (3 * n + 2) (A.deeper (envOfC "_law_refused_right" (defScope s29) s.heap.objs.size (He.fAd K ("_law_refused_right", none)) cdv)) → Mg (GK K) fr is ss cs mg → (∀ (j : Nat) q, tbl[j]? = some q → Fn1 (GK K) P w mg base Φ tf n q.1 q.2.1 q.2.2) →
  Cat (Lk (GK K)) (cxOf (L2.CX P w) P w K mg base N29 "_law_refused_right" (defScope s29) (He.fAd K ("_law_refused_right", none)) cdv A outer s H E) 0 "_law_told" n
section
variable {P : Program} {w : World} {K : PySem.W.Frag} {h base : Heap} {mg : PySem.Str → Option Value}
theorem mgs (KX : K.In h) (N : h.Ns mainGlobals mg) (c : He.SaysD fcs fns K) : Mg (GK K) fr is ss cs mg where
  fr := fun j p e => match j, e with
    | 0, e => by cases e; exact He.free_ok KX N (c.fact 39 (f := .free "abs") rfl)
    | 1, e => by cases e; exact He.free_ok KX N (c.fact 40 (f := .free "all") rfl)
    | 2, e => by cases e; exact He.free_ok KX N (c.fact 41 (f := .free "bool") rfl)
    | 3, e => by cases e; exact He.free_ok KX N (c.fact 42 (f := .free "enumerate") rfl)
    | 4, e => by cases e; exact He.free_ok KX N (c.fact 43 (f := .free "int") rfl)
    | 5, e => by cases e; exact He.free_ok KX N (c.fact 44 (f := .free "isinstance") rfl)
    | 6, e => by cases e; exact He.free_ok KX N (c.fact 45 (f := .free "len") rfl)
    | 7, e => by cases e; exact He.free_ok KX N (c.fact 46 (f := .free "list") rfl)
    | 8, e => by cases e; exact He.free_ok KX N (c.fact 47 (f := .free "max") rfl)
    | 9, e => by cases e; exact He.free_ok KX N (c.fact 48 (f := .free "min") rfl)
    | 10, e => by cases e; exact He.free_ok KX N (c.fact 49 (f := .free "range") rfl)
    | 11, e => by cases e; exact He.free_ok KX N (c.fact 50 (f := .free "repr") rfl)
    | 12, e => by cases e; exact He.free_ok KX N (c.fact 51 (f := .free "str") rfl)
    | 13, e => by cases e; exact He.free_ok KX N (c.fact 52 (f := .free "tuple") rfl)
    | 14, e => by cases e; exact He.free_ok KX N (c.fact 53 (f := .free "zip") rfl)
    | _ + 15, e => by simp [fr] at e
  is := fun j p e => match j, e with
    | 0, e => by cases e; exact He.int_ok KX N (c.fact 34 (f := .int "MAX_TEXT" 60) rfl)
    | 1, e => by cases e; exact He.int_ok KX N (c.fact 36 (f := .int "MOST_ITEMS" 3) rfl)
    | _ + 2, e => by simp [is] at e
  ss := fun j p e => match j, e with
    | 0, e => by cases e; exact He.str_ok KX N (c.fact 35 (f := .str "LETTERS" "abcdefghijklmnopqrstuvwxyz") rfl)
    | 1, e => by cases e; exact He.str_ok KX N (c.fact 37 (f := .str "ONE" "one") rfl)
    | 2, e => by cases e; exact He.str_ok KX N (c.fact 38 (f := .str "ANY" "any") rfl)
    | _ + 3, e => by simp [ss] at e
  cs := fun j p e => match j, e with
    | 0, e => by cases e; exact ⟨He.glo_ok KX N (c.fact 31 (f := .glo "MarkError") rfl), He.exc_ok (c.fact 54 (f := .exc "MarkError") rfl)⟩
    | 1, e => by cases e; exact ⟨He.glo_ok KX N (c.fact 32 (f := .glo "InvalidText") rfl), He.exc_ok (c.fact 55 (f := .exc "InvalidText") rfl)⟩
    | 2, e => by cases e; exact ⟨He.glo_ok KX N (c.fact 33 (f := .glo "InvalidBook") rfl), He.exc_ok (c.fact 56 (f := .exc "InvalidBook") rfl)⟩
    | _ + 3, e => by simp [cs] at e
theorem z0 (KX : K.In h) (N : h.Ns mainGlobals mg) (c : He.SaysD fcs fns K) : Fn1 (GK K) P w mg base Φ tf 0 (tbl.getD 0 (0, false, "")).1 (tbl.getD 0 (0, false, "")).2.1 (tbl.getD 0 (0, false, "")).2.2 := by
  obtain ⟨fd, F⟩ := c.def_ 0 (d := d0) rfl
  exact ⟨⟨_, fd, ["value"], fnX_zero, He.glo_ok KX N (c.fact 0 (f := .glo "is_word") rfl), F.kp, (F.bindsN fun _ _ _ _ _ _ us hl => match us, hl with | [_], _ => rfl)⟩⟩
theorem a0 (KX : K.In h) (N : h.Ns mainGlobals mg) (c : He.SaysD fcs fns K) (CAT : CatAll P w K mg base) (n : Nat) (m : Mg (GK K) fr is ss cs mg) (ih : ∀ (j : Nat) q, tbl[j]? = some q → Fn1 (GK K) P w mg base Φ tf n q.1 q.2.1 q.2.2) : Fn1 (GK K) P w mg base Φ tf (n + 1) (tbl.getD 0 (0, false, "")).1 (tbl.getD 0 (0, false, "")).2.1 (tbl.getD 0 (0, false, "")).2.2 := by
  obtain ⟨fd, F⟩ := c.def_ 0 (d := d0) rfl
  exact ⟨⟨_, fd, ["value"], w0 (G := GK K) m ih F, He.glo_ok KX N (c.fact 0 (f := .glo "is_word") rfl), F.kp, (F.bindsN fun _ _ _ _ _ _ us hl => match us, hl with | [_], _ => rfl)⟩⟩
theorem z1 (KX : K.In h) (N : h.Ns mainGlobals mg) (c : He.SaysD fcs fns K) : Fn1 (GK K) P w mg base Φ tf 0 (tbl.getD 1 (0, false, "")).1 (tbl.getD 1 (0, false, "")).2.1 (tbl.getD 1 (0, false, "")).2.2 := by
  obtain ⟨fd, F⟩ := c.def_ 1 (d := d1) rfl
  exact ⟨⟨_, fd, ["value"], fnX_zero, He.glo_ok KX N (c.fact 1 (f := .glo "is_text") rfl), F.kp, (F.bindsN fun _ _ _ _ _ _ us hl => match us, hl with | [_], _ => rfl)⟩⟩
theorem a1 (KX : K.In h) (N : h.Ns mainGlobals mg) (c : He.SaysD fcs fns K) (CAT : CatAll P w K mg base) (n : Nat) (m : Mg (GK K) fr is ss cs mg) (ih : ∀ (j : Nat) q, tbl[j]? = some q → Fn1 (GK K) P w mg base Φ tf n q.1 q.2.1 q.2.2) : Fn1 (GK K) P w mg base Φ tf (n + 1) (tbl.getD 1 (0, false, "")).1 (tbl.getD 1 (0, false, "")).2.1 (tbl.getD 1 (0, false, "")).2.2 := by
  obtain ⟨fd, F⟩ := c.def_ 1 (d := d1) rfl
  exact ⟨⟨_, fd, ["value"], w1 (G := GK K) m ih F, He.glo_ok KX N (c.fact 1 (f := .glo "is_text") rfl), F.kp, (F.bindsN fun _ _ _ _ _ _ us hl => match us, hl with | [_], _ => rfl)⟩⟩
theorem z2 (KX : K.In h) (N : h.Ns mainGlobals mg) (c : He.SaysD fcs fns K) : Fn1 (GK K) P w mg base Φ tf 0 (tbl.getD 2 (0, false, "")).1 (tbl.getD 2 (0, false, "")).2.1 (tbl.getD 2 (0, false, "")).2.2 := by
  obtain ⟨fd, F⟩ := c.def_ 2 (d := d2) rfl
  exact ⟨⟨_, fd, ["signs"], fnX_zero, He.glo_ok KX N (c.fact 2 (f := .glo "are_ascending") rfl), F.kp, (F.bindsN fun _ _ _ _ _ _ us hl => match us, hl with | [_], _ => rfl)⟩⟩
theorem a2 (KX : K.In h) (N : h.Ns mainGlobals mg) (c : He.SaysD fcs fns K) (CAT : CatAll P w K mg base) (n : Nat) (m : Mg (GK K) fr is ss cs mg) (ih : ∀ (j : Nat) q, tbl[j]? = some q → Fn1 (GK K) P w mg base Φ tf n q.1 q.2.1 q.2.2) : Fn1 (GK K) P w mg base Φ tf (n + 1) (tbl.getD 2 (0, false, "")).1 (tbl.getD 2 (0, false, "")).2.1 (tbl.getD 2 (0, false, "")).2.2 := by
  obtain ⟨fd, F⟩ := c.def_ 2 (d := d2) rfl
  exact ⟨⟨_, fd, ["signs"], w2 (G := GK K) m ih F, He.glo_ok KX N (c.fact 2 (f := .glo "are_ascending") rfl), F.kp, (F.bindsN fun _ _ _ _ _ _ us hl => match us, hl with | [_], _ => rfl)⟩⟩
theorem z3 (KX : K.In h) (N : h.Ns mainGlobals mg) (c : He.SaysD fcs fns K) : Fn1 (GK K) P w mg base Φ tf 0 (tbl.getD 3 (0, false, "")).1 (tbl.getD 3 (0, false, "")).2.1 (tbl.getD 3 (0, false, "")).2.2 := by
  obtain ⟨fd, F⟩ := c.def_ 3 (d := d3) rfl
  exact ⟨⟨_, fd, ["value"], fnX_zero, He.glo_ok KX N (c.fact 3 (f := .glo "require_text") rfl), F.kp, (F.bindsN fun _ _ _ _ _ _ us hl => match us, hl with | [_], _ => rfl)⟩⟩
theorem a3 (KX : K.In h) (N : h.Ns mainGlobals mg) (c : He.SaysD fcs fns K) (CAT : CatAll P w K mg base) (n : Nat) (m : Mg (GK K) fr is ss cs mg) (ih : ∀ (j : Nat) q, tbl[j]? = some q → Fn1 (GK K) P w mg base Φ tf n q.1 q.2.1 q.2.2) : Fn1 (GK K) P w mg base Φ tf (n + 1) (tbl.getD 3 (0, false, "")).1 (tbl.getD 3 (0, false, "")).2.1 (tbl.getD 3 (0, false, "")).2.2 := by
  obtain ⟨fd, F⟩ := c.def_ 3 (d := d3) rfl
  exact ⟨⟨_, fd, ["value"], w3 (G := GK K) m ih F, He.glo_ok KX N (c.fact 3 (f := .glo "require_text") rfl), F.kp, (F.bindsN fun _ _ _ _ _ _ us hl => match us, hl with | [_], _ => rfl)⟩⟩
theorem z4 (KX : K.In h) (N : h.Ns mainGlobals mg) (c : He.SaysD fcs fns K) : Fn1 (GK K) P w mg base Φ tf 0 (tbl.getD 4 (0, false, "")).1 (tbl.getD 4 (0, false, "")).2.1 (tbl.getD 4 (0, false, "")).2.2 := by
  obtain ⟨fd, F⟩ := c.def_ 4 (d := d4) rfl
  exact ⟨⟨_, fd, ["value"], fnX_zero, He.glo_ok KX N (c.fact 4 (f := .glo "is_item") rfl), F.kp, (F.bindsN fun _ _ _ _ _ _ us hl => match us, hl with | [_], _ => rfl)⟩⟩
theorem a4 (KX : K.In h) (N : h.Ns mainGlobals mg) (c : He.SaysD fcs fns K) (CAT : CatAll P w K mg base) (n : Nat) (m : Mg (GK K) fr is ss cs mg) (ih : ∀ (j : Nat) q, tbl[j]? = some q → Fn1 (GK K) P w mg base Φ tf n q.1 q.2.1 q.2.2) : Fn1 (GK K) P w mg base Φ tf (n + 1) (tbl.getD 4 (0, false, "")).1 (tbl.getD 4 (0, false, "")).2.1 (tbl.getD 4 (0, false, "")).2.2 := by
  obtain ⟨fd, F⟩ := c.def_ 4 (d := d4) rfl
  exact ⟨⟨_, fd, ["value"], w4 (G := GK K) m ih F, He.glo_ok KX N (c.fact 4 (f := .glo "is_item") rfl), F.kp, (F.bindsN fun _ _ _ _ _ _ us hl => match us, hl with | [_], _ => rfl)⟩⟩
theorem z5 (KX : K.In h) (N : h.Ns mainGlobals mg) (c : He.SaysD fcs fns K) : Fn1 (GK K) P w mg base Φ tf 0 (tbl.getD 5 (0, false, "")).1 (tbl.getD 5 (0, false, "")).2.1 (tbl.getD 5 (0, false, "")).2.2 := by
  obtain ⟨fd, F⟩ := c.def_ 5 (d := d5) rfl
  exact ⟨⟨_, fd, ["value"], fnX_zero, He.glo_ok KX N (c.fact 5 (f := .glo "is_pattern") rfl), F.kp, (F.bindsN fun _ _ _ _ _ _ us hl => match us, hl with | [_], _ => rfl)⟩⟩
theorem a5 (KX : K.In h) (N : h.Ns mainGlobals mg) (c : He.SaysD fcs fns K) (CAT : CatAll P w K mg base) (n : Nat) (m : Mg (GK K) fr is ss cs mg) (ih : ∀ (j : Nat) q, tbl[j]? = some q → Fn1 (GK K) P w mg base Φ tf n q.1 q.2.1 q.2.2) : Fn1 (GK K) P w mg base Φ tf (n + 1) (tbl.getD 5 (0, false, "")).1 (tbl.getD 5 (0, false, "")).2.1 (tbl.getD 5 (0, false, "")).2.2 := by
  obtain ⟨fd, F⟩ := c.def_ 5 (d := d5) rfl
  exact ⟨⟨_, fd, ["value"], w5 (G := GK K) m ih F, He.glo_ok KX N (c.fact 5 (f := .glo "is_pattern") rfl), F.kp, (F.bindsN fun _ _ _ _ _ _ us hl => match us, hl with | [_], _ => rfl)⟩⟩
theorem z6 (KX : K.In h) (N : h.Ns mainGlobals mg) (c : He.SaysD fcs fns K) : Fn1 (GK K) P w mg base Φ tf 0 (tbl.getD 6 (0, false, "")).1 (tbl.getD 6 (0, false, "")).2.1 (tbl.getD 6 (0, false, "")).2.2 := by
  obtain ⟨fd, F⟩ := c.def_ 6 (d := d6) rfl
  exact ⟨⟨_, fd, ["pattern"], fnX_zero, He.glo_ok KX N (c.fact 6 (f := .glo "first_sight") rfl), F.kp, (F.bindsN fun _ _ _ _ _ _ us hl => match us, hl with | [_], _ => rfl)⟩⟩
theorem a6 (KX : K.In h) (N : h.Ns mainGlobals mg) (c : He.SaysD fcs fns K) (CAT : CatAll P w K mg base) (n : Nat) (m : Mg (GK K) fr is ss cs mg) (ih : ∀ (j : Nat) q, tbl[j]? = some q → Fn1 (GK K) P w mg base Φ tf n q.1 q.2.1 q.2.2) : Fn1 (GK K) P w mg base Φ tf (n + 1) (tbl.getD 6 (0, false, "")).1 (tbl.getD 6 (0, false, "")).2.1 (tbl.getD 6 (0, false, "")).2.2 := by
  obtain ⟨fd, F⟩ := c.def_ 6 (d := d6) rfl
  exact ⟨⟨_, fd, ["pattern"], w6 (G := GK K) m ih F, He.glo_ok KX N (c.fact 6 (f := .glo "first_sight") rfl), F.kp, (F.bindsN fun _ _ _ _ _ _ us hl => match us, hl with | [_], _ => rfl)⟩⟩
theorem z7 (KX : K.In h) (N : h.Ns mainGlobals mg) (c : He.SaysD fcs fns K) : Fn1 (GK K) P w mg base Φ tf 0 (tbl.getD 7 (0, false, "")).1 (tbl.getD 7 (0, false, "")).2.1 (tbl.getD 7 (0, false, "")).2.2 := by
  obtain ⟨fd, F⟩ := c.def_ 7 (d := d7) rfl
  exact ⟨⟨_, fd, ["pattern", "letter", "numbers"], fnX_zero, He.glo_ok KX N (c.fact 7 (f := .glo "next_sight") rfl), F.kp, (F.bindsN fun _ _ _ _ _ _ us hl => match us, hl with | [_, _, _], _ => rfl)⟩⟩
theorem a7 (KX : K.In h) (N : h.Ns mainGlobals mg) (c : He.SaysD fcs fns K) (CAT : CatAll P w K mg base) (n : Nat) (m : Mg (GK K) fr is ss cs mg) (ih : ∀ (j : Nat) q, tbl[j]? = some q → Fn1 (GK K) P w mg base Φ tf n q.1 q.2.1 q.2.2) : Fn1 (GK K) P w mg base Φ tf (n + 1) (tbl.getD 7 (0, false, "")).1 (tbl.getD 7 (0, false, "")).2.1 (tbl.getD 7 (0, false, "")).2.2 := by
  obtain ⟨fd, F⟩ := c.def_ 7 (d := d7) rfl
  exact ⟨⟨_, fd, ["pattern", "letter", "numbers"], w7 (G := GK K) m ih F, He.glo_ok KX N (c.fact 7 (f := .glo "next_sight") rfl), F.kp, (F.bindsN fun _ _ _ _ _ _ us hl => match us, hl with | [_, _, _], _ => rfl)⟩⟩
theorem z8 (KX : K.In h) (N : h.Ns mainGlobals mg) (c : He.SaysD fcs fns K) : Fn1 (GK K) P w mg base Φ tf 0 (tbl.getD 8 (0, false, "")).1 (tbl.getD 8 (0, false, "")).2.1 (tbl.getD 8 (0, false, "")).2.2 := by
  obtain ⟨fd, F⟩ := c.def_ 8 (d := d8) rfl
  exact ⟨⟨_, fd, ["pattern"], fnX_zero, He.glo_ok KX N (c.fact 8 (f := .glo "first_trace") rfl), F.kp, (F.bindsN fun _ _ _ _ _ _ us hl => match us, hl with | [_], _ => rfl)⟩⟩
theorem a8 (KX : K.In h) (N : h.Ns mainGlobals mg) (c : He.SaysD fcs fns K) (CAT : CatAll P w K mg base) (n : Nat) (m : Mg (GK K) fr is ss cs mg) (ih : ∀ (j : Nat) q, tbl[j]? = some q → Fn1 (GK K) P w mg base Φ tf n q.1 q.2.1 q.2.2) : Fn1 (GK K) P w mg base Φ tf (n + 1) (tbl.getD 8 (0, false, "")).1 (tbl.getD 8 (0, false, "")).2.1 (tbl.getD 8 (0, false, "")).2.2 := by
  obtain ⟨fd, F⟩ := c.def_ 8 (d := d8) rfl
  exact ⟨⟨_, fd, ["pattern"], w8 (G := GK K) m ih F, He.glo_ok KX N (c.fact 8 (f := .glo "first_trace") rfl), F.kp, (F.bindsN fun _ _ _ _ _ _ us hl => match us, hl with | [_], _ => rfl)⟩⟩
theorem z9 (KX : K.In h) (N : h.Ns mainGlobals mg) (c : He.SaysD fcs fns K) : Fn1 (GK K) P w mg base Φ tf 0 (tbl.getD 9 (0, false, "")).1 (tbl.getD 9 (0, false, "")).2.1 (tbl.getD 9 (0, false, "")).2.2 := by
  obtain ⟨fd, F⟩ := c.def_ 9 (d := d9) rfl
  exact ⟨⟨_, fd, ["pattern", "letter", "numbers"], fnX_zero, He.glo_ok KX N (c.fact 9 (f := .glo "next_trace") rfl), F.kp, (F.bindsN fun _ _ _ _ _ _ us hl => match us, hl with | [_, _, _], _ => rfl)⟩⟩
theorem a9 (KX : K.In h) (N : h.Ns mainGlobals mg) (c : He.SaysD fcs fns K) (CAT : CatAll P w K mg base) (n : Nat) (m : Mg (GK K) fr is ss cs mg) (ih : ∀ (j : Nat) q, tbl[j]? = some q → Fn1 (GK K) P w mg base Φ tf n q.1 q.2.1 q.2.2) : Fn1 (GK K) P w mg base Φ tf (n + 1) (tbl.getD 9 (0, false, "")).1 (tbl.getD 9 (0, false, "")).2.1 (tbl.getD 9 (0, false, "")).2.2 := by
  obtain ⟨fd, F⟩ := c.def_ 9 (d := d9) rfl
  exact ⟨⟨_, fd, ["pattern", "letter", "numbers"], w9 (G := GK K) m ih F, He.glo_ok KX N (c.fact 9 (f := .glo "next_trace") rfl), F.kp, (F.bindsN fun _ _ _ _ _ _ us hl => match us, hl with | [_, _, _], _ => rfl)⟩⟩
theorem z10 (KX : K.In h) (N : h.Ns mainGlobals mg) (c : He.SaysD fcs fns K) : Fn1 (GK K) P w mg base Φ tf 0 (tbl.getD 10 (0, false, "")).1 (tbl.getD 10 (0, false, "")).2.1 (tbl.getD 10 (0, false, "")).2.2 := by
  obtain ⟨fd, F⟩ := c.def_ 10 (d := d10) rfl
  exact ⟨⟨_, fd, ["pattern", "text"], fnX_zero, He.glo_ok KX N (c.fact 10 (f := .glo "begins_in") rfl), F.kp, (F.bindsN fun _ _ _ _ _ _ us hl => match us, hl with | [_, _], _ => rfl)⟩⟩
theorem a10 (KX : K.In h) (N : h.Ns mainGlobals mg) (c : He.SaysD fcs fns K) (CAT : CatAll P w K mg base) (n : Nat) (m : Mg (GK K) fr is ss cs mg) (ih : ∀ (j : Nat) q, tbl[j]? = some q → Fn1 (GK K) P w mg base Φ tf n q.1 q.2.1 q.2.2) : Fn1 (GK K) P w mg base Φ tf (n + 1) (tbl.getD 10 (0, false, "")).1 (tbl.getD 10 (0, false, "")).2.1 (tbl.getD 10 (0, false, "")).2.2 := by
  obtain ⟨fd, F⟩ := c.def_ 10 (d := d10) rfl
  exact ⟨⟨_, fd, ["pattern", "text"], w10 (G := GK K) m ih F, He.glo_ok KX N (c.fact 10 (f := .glo "begins_in") rfl), F.kp, (F.bindsN fun _ _ _ _ _ _ us hl => match us, hl with | [_, _], _ => rfl)⟩⟩
theorem z11 (KX : K.In h) (N : h.Ns mainGlobals mg) (c : He.SaysD fcs fns K) : Fn1 (GK K) P w mg base Φ tf 0 (tbl.getD 11 (0, false, "")).1 (tbl.getD 11 (0, false, "")).2.1 (tbl.getD 11 (0, false, "")).2.2 := by
  obtain ⟨fd, F⟩ := c.def_ 11 (d := d11) rfl
  exact ⟨⟨_, fd, ["pattern", "text"], fnX_zero, He.glo_ok KX N (c.fact 11 (f := .glo "ends_in") rfl), F.kp, (F.bindsN fun _ _ _ _ _ _ us hl => match us, hl with | [_, _], _ => rfl)⟩⟩
theorem a11 (KX : K.In h) (N : h.Ns mainGlobals mg) (c : He.SaysD fcs fns K) (CAT : CatAll P w K mg base) (n : Nat) (m : Mg (GK K) fr is ss cs mg) (ih : ∀ (j : Nat) q, tbl[j]? = some q → Fn1 (GK K) P w mg base Φ tf n q.1 q.2.1 q.2.2) : Fn1 (GK K) P w mg base Φ tf (n + 1) (tbl.getD 11 (0, false, "")).1 (tbl.getD 11 (0, false, "")).2.1 (tbl.getD 11 (0, false, "")).2.2 := by
  obtain ⟨fd, F⟩ := c.def_ 11 (d := d11) rfl
  exact ⟨⟨_, fd, ["pattern", "text"], w11 (G := GK K) m ih F, He.glo_ok KX N (c.fact 11 (f := .glo "ends_in") rfl), F.kp, (F.bindsN fun _ _ _ _ _ _ us hl => match us, hl with | [_, _], _ => rfl)⟩⟩
theorem z12 (KX : K.In h) (N : h.Ns mainGlobals mg) (c : He.SaysD fcs fns K) : Fn1 (GK K) P w mg base Φ tf 0 (tbl.getD 12 (0, false, "")).1 (tbl.getD 12 (0, false, "")).2.1 (tbl.getD 12 (0, false, "")).2.2 := by
  obtain ⟨fd, F⟩ := c.def_ 12 (d := d12) rfl
  exact ⟨⟨_, fd, ["value"], fnX_zero, He.glo_ok KX N (c.fact 12 (f := .glo "require_pattern") rfl), F.kp, (F.bindsN fun _ _ _ _ _ _ us hl => match us, hl with | [_], _ => rfl)⟩⟩
theorem a12 (KX : K.In h) (N : h.Ns mainGlobals mg) (c : He.SaysD fcs fns K) (CAT : CatAll P w K mg base) (n : Nat) (m : Mg (GK K) fr is ss cs mg) (ih : ∀ (j : Nat) q, tbl[j]? = some q → Fn1 (GK K) P w mg base Φ tf n q.1 q.2.1 q.2.2) : Fn1 (GK K) P w mg base Φ tf (n + 1) (tbl.getD 12 (0, false, "")).1 (tbl.getD 12 (0, false, "")).2.1 (tbl.getD 12 (0, false, "")).2.2 := by
  obtain ⟨fd, F⟩ := c.def_ 12 (d := d12) rfl
  exact ⟨⟨_, fd, ["value"], w12 (G := GK K) m ih F, He.glo_ok KX N (c.fact 12 (f := .glo "require_pattern") rfl), F.kp, (F.bindsN fun _ _ _ _ _ _ us hl => match us, hl with | [_], _ => rfl)⟩⟩
theorem z13 (KX : K.In h) (N : h.Ns mainGlobals mg) (c : He.SaysD fcs fns K) : Fn1 (GK K) P w mg base Φ tf 0 (tbl.getD 13 (0, false, "")).1 (tbl.getD 13 (0, false, "")).2.1 (tbl.getD 13 (0, false, "")).2.2 := by
  obtain ⟨fd, F⟩ := c.def_ 13 (d := d13) rfl
  exact ⟨⟨_, fd, ["pattern", "text"], fnX_zero, He.glo_ok KX N (c.fact 13 (f := .glo "fits") rfl), F.kp, (F.bindsN fun _ _ _ _ _ _ us hl => match us, hl with | [_, _], _ => rfl)⟩⟩
theorem a13 (KX : K.In h) (N : h.Ns mainGlobals mg) (c : He.SaysD fcs fns K) (CAT : CatAll P w K mg base) (n : Nat) (m : Mg (GK K) fr is ss cs mg) (ih : ∀ (j : Nat) q, tbl[j]? = some q → Fn1 (GK K) P w mg base Φ tf n q.1 q.2.1 q.2.2) : Fn1 (GK K) P w mg base Φ tf (n + 1) (tbl.getD 13 (0, false, "")).1 (tbl.getD 13 (0, false, "")).2.1 (tbl.getD 13 (0, false, "")).2.2 := by
  obtain ⟨fd, F⟩ := c.def_ 13 (d := d13) rfl
  exact ⟨⟨_, fd, ["pattern", "text"], w13 (G := GK K) m ih F, He.glo_ok KX N (c.fact 13 (f := .glo "fits") rfl), F.kp, (F.bindsN fun _ _ _ _ _ _ us hl => match us, hl with | [_, _], _ => rfl)⟩⟩
theorem z14 (KX : K.In h) (N : h.Ns mainGlobals mg) (c : He.SaysD fcs fns K) : Fn1 (GK K) P w mg base Φ tf 0 (tbl.getD 14 (0, false, "")).1 (tbl.getD 14 (0, false, "")).2.1 (tbl.getD 14 (0, false, "")).2.2 := by
  obtain ⟨fd, F⟩ := c.def_ 14 (d := d14) rfl
  exact ⟨⟨_, fd, ["pattern", "text"], fnX_zero, He.glo_ok KX N (c.fact 14 (f := .glo "begins_with") rfl), F.kp, (F.bindsN fun _ _ _ _ _ _ us hl => match us, hl with | [_, _], _ => rfl)⟩⟩
theorem a14 (KX : K.In h) (N : h.Ns mainGlobals mg) (c : He.SaysD fcs fns K) (CAT : CatAll P w K mg base) (n : Nat) (m : Mg (GK K) fr is ss cs mg) (ih : ∀ (j : Nat) q, tbl[j]? = some q → Fn1 (GK K) P w mg base Φ tf n q.1 q.2.1 q.2.2) : Fn1 (GK K) P w mg base Φ tf (n + 1) (tbl.getD 14 (0, false, "")).1 (tbl.getD 14 (0, false, "")).2.1 (tbl.getD 14 (0, false, "")).2.2 := by
  obtain ⟨fd, F⟩ := c.def_ 14 (d := d14) rfl
  exact ⟨⟨_, fd, ["pattern", "text"], w14 (G := GK K) m ih F, He.glo_ok KX N (c.fact 14 (f := .glo "begins_with") rfl), F.kp, (F.bindsN fun _ _ _ _ _ _ us hl => match us, hl with | [_, _], _ => rfl)⟩⟩
theorem z15 (KX : K.In h) (N : h.Ns mainGlobals mg) (c : He.SaysD fcs fns K) : Fn1 (GK K) P w mg base Φ tf 0 (tbl.getD 15 (0, false, "")).1 (tbl.getD 15 (0, false, "")).2.1 (tbl.getD 15 (0, false, "")).2.2 := by
  obtain ⟨fd, F⟩ := c.def_ 15 (d := d15) rfl
  exact ⟨⟨_, fd, ["pattern", "text"], fnX_zero, He.glo_ok KX N (c.fact 15 (f := .glo "ends_with") rfl), F.kp, (F.bindsN fun _ _ _ _ _ _ us hl => match us, hl with | [_, _], _ => rfl)⟩⟩
theorem a15 (KX : K.In h) (N : h.Ns mainGlobals mg) (c : He.SaysD fcs fns K) (CAT : CatAll P w K mg base) (n : Nat) (m : Mg (GK K) fr is ss cs mg) (ih : ∀ (j : Nat) q, tbl[j]? = some q → Fn1 (GK K) P w mg base Φ tf n q.1 q.2.1 q.2.2) : Fn1 (GK K) P w mg base Φ tf (n + 1) (tbl.getD 15 (0, false, "")).1 (tbl.getD 15 (0, false, "")).2.1 (tbl.getD 15 (0, false, "")).2.2 := by
  obtain ⟨fd, F⟩ := c.def_ 15 (d := d15) rfl
  exact ⟨⟨_, fd, ["pattern", "text"], w15 (G := GK K) m ih F, He.glo_ok KX N (c.fact 15 (f := .glo "ends_with") rfl), F.kp, (F.bindsN fun _ _ _ _ _ _ us hl => match us, hl with | [_, _], _ => rfl)⟩⟩
theorem z16 (KX : K.In h) (N : h.Ns mainGlobals mg) (c : He.SaysD fcs fns K) : Fn1 (GK K) P w mg base Φ tf 0 (tbl.getD 16 (0, false, "")).1 (tbl.getD 16 (0, false, "")).2.1 (tbl.getD 16 (0, false, "")).2.2 := by
  obtain ⟨fd, F⟩ := c.def_ 16 (d := d16) rfl
  exact ⟨⟨_, fd, ["_law_script", "_law_at"], fnX_zero, He.glo_ok KX N (c.fact 16 (f := .glo "_law_start") rfl), F.kp, (F.bindsN fun _ _ _ _ _ _ us hl => match us, hl with | [_, _], _ => rfl)⟩⟩
theorem a16 (KX : K.In h) (N : h.Ns mainGlobals mg) (c : He.SaysD fcs fns K) (CAT : CatAll P w K mg base) (n : Nat) (m : Mg (GK K) fr is ss cs mg) (ih : ∀ (j : Nat) q, tbl[j]? = some q → Fn1 (GK K) P w mg base Φ tf n q.1 q.2.1 q.2.2) : Fn1 (GK K) P w mg base Φ tf (n + 1) (tbl.getD 16 (0, false, "")).1 (tbl.getD 16 (0, false, "")).2.1 (tbl.getD 16 (0, false, "")).2.2 := by
  obtain ⟨fd, F⟩ := c.def_ 16 (d := d16) rfl
  exact ⟨⟨_, fd, ["_law_script", "_law_at"], w16 (G := GK K) m ih F, He.glo_ok KX N (c.fact 16 (f := .glo "_law_start") rfl), F.kp, (F.bindsN fun _ _ _ _ _ _ us hl => match us, hl with | [_, _], _ => rfl)⟩⟩
theorem z17 (KX : K.In h) (N : h.Ns mainGlobals mg) (c : He.SaysD fcs fns K) : Fn1 (GK K) P w mg base Φ tf 0 (tbl.getD 17 (0, false, "")).1 (tbl.getD 17 (0, false, "")).2.1 (tbl.getD 17 (0, false, "")).2.2 := by
  obtain ⟨fd, F⟩ := c.def_ 17 (d := d17) rfl
  exact ⟨⟨_, fd, ["_law_bag", "_law_total"], fnX_zero, He.glo_ok KX N (c.fact 17 (f := .glo "_law_throw") rfl), F.kp, (F.bindsN fun _ _ _ _ _ _ us hl => match us, hl with | [_, _], _ => rfl)⟩⟩
theorem a17 (KX : K.In h) (N : h.Ns mainGlobals mg) (c : He.SaysD fcs fns K) (CAT : CatAll P w K mg base) (n : Nat) (m : Mg (GK K) fr is ss cs mg) (ih : ∀ (j : Nat) q, tbl[j]? = some q → Fn1 (GK K) P w mg base Φ tf n q.1 q.2.1 q.2.2) : Fn1 (GK K) P w mg base Φ tf (n + 1) (tbl.getD 17 (0, false, "")).1 (tbl.getD 17 (0, false, "")).2.1 (tbl.getD 17 (0, false, "")).2.2 := by
  obtain ⟨fd, F⟩ := c.def_ 17 (d := d17) rfl
  exact ⟨⟨_, fd, ["_law_bag", "_law_total"], w17 (G := GK K) m ih F, He.glo_ok KX N (c.fact 17 (f := .glo "_law_throw") rfl), F.kp, (F.bindsN fun _ _ _ _ _ _ us hl => match us, hl with | [_, _], _ => rfl)⟩⟩
theorem z18 (KX : K.In h) (N : h.Ns mainGlobals mg) (c : He.SaysD fcs fns K) : Fn1 (GK K) P w mg base Φ tf 0 (tbl.getD 18 (0, false, "")).1 (tbl.getD 18 (0, false, "")).2.1 (tbl.getD 18 (0, false, "")).2.2 := by
  obtain ⟨fd, F⟩ := c.def_ 18 (d := d18) rfl
  exact ⟨⟨_, fd, ["_law_bag", "_law_items"], fnX_zero, He.glo_ok KX N (c.fact 18 (f := .glo "_law_pick") rfl), F.kp, (F.bindsN fun _ _ _ _ _ _ us hl => match us, hl with | [_, _], _ => rfl)⟩⟩
theorem a18 (KX : K.In h) (N : h.Ns mainGlobals mg) (c : He.SaysD fcs fns K) (CAT : CatAll P w K mg base) (n : Nat) (m : Mg (GK K) fr is ss cs mg) (ih : ∀ (j : Nat) q, tbl[j]? = some q → Fn1 (GK K) P w mg base Φ tf n q.1 q.2.1 q.2.2) : Fn1 (GK K) P w mg base Φ tf (n + 1) (tbl.getD 18 (0, false, "")).1 (tbl.getD 18 (0, false, "")).2.1 (tbl.getD 18 (0, false, "")).2.2 := by
  obtain ⟨fd, F⟩ := c.def_ 18 (d := d18) rfl
  exact ⟨⟨_, fd, ["_law_bag", "_law_items"], w18 (G := GK K) m ih F, He.glo_ok KX N (c.fact 18 (f := .glo "_law_pick") rfl), F.kp, (F.bindsN fun _ _ _ _ _ _ us hl => match us, hl with | [_, _], _ => rfl)⟩⟩
theorem z19 (KX : K.In h) (N : h.Ns mainGlobals mg) (c : He.SaysD fcs fns K) : Fn1 (GK K) P w mg base Φ tf 0 (tbl.getD 19 (0, false, "")).1 (tbl.getD 19 (0, false, "")).2.1 (tbl.getD 19 (0, false, "")).2.2 := by
  obtain ⟨fd, F⟩ := c.def_ 19 (d := d19) rfl
  exact ⟨⟨_, fd, ["_law_bag", "_law_signs", "_law_most"], fnX_zero, He.glo_ok KX N (c.fact 19 (f := .glo "_law_drawn_word") rfl), F.kp, (F.bindsN fun _ _ _ _ _ _ us hl => match us, hl with | [_, _, _], _ => rfl)⟩⟩
theorem a19 (KX : K.In h) (N : h.Ns mainGlobals mg) (c : He.SaysD fcs fns K) (CAT : CatAll P w K mg base) (n : Nat) (m : Mg (GK K) fr is ss cs mg) (ih : ∀ (j : Nat) q, tbl[j]? = some q → Fn1 (GK K) P w mg base Φ tf n q.1 q.2.1 q.2.2) : Fn1 (GK K) P w mg base Φ tf (n + 1) (tbl.getD 19 (0, false, "")).1 (tbl.getD 19 (0, false, "")).2.1 (tbl.getD 19 (0, false, "")).2.2 := by
  obtain ⟨fd, F⟩ := c.def_ 19 (d := d19) rfl
  exact ⟨⟨_, fd, ["_law_bag", "_law_signs", "_law_most"], w19 (G := GK K) m ih F, He.glo_ok KX N (c.fact 19 (f := .glo "_law_drawn_word") rfl), F.kp, (F.bindsN fun _ _ _ _ _ _ us hl => match us, hl with | [_, _, _], _ => rfl)⟩⟩
theorem z20 (KX : K.In h) (N : h.Ns mainGlobals mg) (c : He.SaysD fcs fns K) : Fn1 (GK K) P w mg base Φ tf 0 (tbl.getD 20 (0, false, "")).1 (tbl.getD 20 (0, false, "")).2.1 (tbl.getD 20 (0, false, "")).2.2 := by
  obtain ⟨fd, F⟩ := c.def_ 20 (d := d20) rfl
  exact ⟨⟨_, fd, ["_law_bag", "_law_signs", "_law_most"], fnX_zero, He.glo_ok KX N (c.fact 20 (f := .glo "_law_drawn_items") rfl), F.kp, (F.bindsN fun _ _ _ _ _ _ us hl => match us, hl with | [_, _, _], _ => rfl)⟩⟩
theorem a20 (KX : K.In h) (N : h.Ns mainGlobals mg) (c : He.SaysD fcs fns K) (CAT : CatAll P w K mg base) (n : Nat) (m : Mg (GK K) fr is ss cs mg) (ih : ∀ (j : Nat) q, tbl[j]? = some q → Fn1 (GK K) P w mg base Φ tf n q.1 q.2.1 q.2.2) : Fn1 (GK K) P w mg base Φ tf (n + 1) (tbl.getD 20 (0, false, "")).1 (tbl.getD 20 (0, false, "")).2.1 (tbl.getD 20 (0, false, "")).2.2 := by
  obtain ⟨fd, F⟩ := c.def_ 20 (d := d20) rfl
  exact ⟨⟨_, fd, ["_law_bag", "_law_signs", "_law_most"], w20 (G := GK K) m ih F, He.glo_ok KX N (c.fact 20 (f := .glo "_law_drawn_items") rfl), F.kp, (F.bindsN fun _ _ _ _ _ _ us hl => match us, hl with | [_, _, _], _ => rfl)⟩⟩
theorem z21 (KX : K.In h) (N : h.Ns mainGlobals mg) (c : He.SaysD fcs fns K) : Fn1 (GK K) P w mg base Φ tf 0 (tbl.getD 21 (0, false, "")).1 (tbl.getD 21 (0, false, "")).2.1 (tbl.getD 21 (0, false, "")).2.2 := by
  obtain ⟨fd, F⟩ := c.def_ 21 (d := d21) rfl
  exact ⟨⟨_, fd, ["_law_bag", "_law_signs"], fnX_zero, He.glo_ok KX N (c.fact 21 (f := .glo "_law_drawn_pattern") rfl), F.kp, (F.bindsN fun _ _ _ _ _ _ us hl => match us, hl with | [_, _], _ => rfl)⟩⟩
theorem a21 (KX : K.In h) (N : h.Ns mainGlobals mg) (c : He.SaysD fcs fns K) (CAT : CatAll P w K mg base) (n : Nat) (m : Mg (GK K) fr is ss cs mg) (ih : ∀ (j : Nat) q, tbl[j]? = some q → Fn1 (GK K) P w mg base Φ tf n q.1 q.2.1 q.2.2) : Fn1 (GK K) P w mg base Φ tf (n + 1) (tbl.getD 21 (0, false, "")).1 (tbl.getD 21 (0, false, "")).2.1 (tbl.getD 21 (0, false, "")).2.2 := by
  obtain ⟨fd, F⟩ := c.def_ 21 (d := d21) rfl
  exact ⟨⟨_, fd, ["_law_bag", "_law_signs"], w21 (G := GK K) m ih F, He.glo_ok KX N (c.fact 21 (f := .glo "_law_drawn_pattern") rfl), F.kp, (F.bindsN fun _ _ _ _ _ _ us hl => match us, hl with | [_, _], _ => rfl)⟩⟩
theorem z22 (KX : K.In h) (N : h.Ns mainGlobals mg) (c : He.SaysD fcs fns K) : Fn1 (GK K) P w mg base Φ tf 0 (tbl.getD 22 (0, false, "")).1 (tbl.getD 22 (0, false, "")).2.1 (tbl.getD 22 (0, false, "")).2.2 := by
  obtain ⟨fd, F⟩ := c.def_ 22 (d := d22) rfl
  exact ⟨⟨_, fd, ["_law_items", "_law_one"], fnX_zero, He.glo_ok KX N (c.fact 22 (f := .glo "_law_fits_in") rfl), F.kp, (F.bindsN fun _ _ _ _ _ _ us hl => match us, hl with | [_, _], _ => rfl)⟩⟩
theorem a22 (KX : K.In h) (N : h.Ns mainGlobals mg) (c : He.SaysD fcs fns K) (CAT : CatAll P w K mg base) (n : Nat) (m : Mg (GK K) fr is ss cs mg) (ih : ∀ (j : Nat) q, tbl[j]? = some q → Fn1 (GK K) P w mg base Φ tf n q.1 q.2.1 q.2.2) : Fn1 (GK K) P w mg base Φ tf (n + 1) (tbl.getD 22 (0, false, "")).1 (tbl.getD 22 (0, false, "")).2.1 (tbl.getD 22 (0, false, "")).2.2 := by
  obtain ⟨fd, F⟩ := c.def_ 22 (d := d22) rfl
  exact ⟨⟨_, fd, ["_law_items", "_law_one"], w22 (G := GK K) m ih F, He.glo_ok KX N (c.fact 22 (f := .glo "_law_fits_in") rfl), F.kp, (F.bindsN fun _ _ _ _ _ _ us hl => match us, hl with | [_, _], _ => rfl)⟩⟩
theorem z23 (KX : K.In h) (N : h.Ns mainGlobals mg) (c : He.SaysD fcs fns K) : Fn1 (GK K) P w mg base Φ tf 0 (tbl.getD 23 (0, false, "")).1 (tbl.getD 23 (0, false, "")).2.1 (tbl.getD 23 (0, false, "")).2.2 := by
  obtain ⟨fd, F⟩ := c.def_ 23 (d := d23) rfl
  exact ⟨⟨_, fd, ["_law_pattern", "_law_one"], fnX_zero, He.glo_ok KX N (c.fact 23 (f := .glo "_law_begins_in") rfl), F.kp, (F.bindsN fun _ _ _ _ _ _ us hl => match us, hl with | [_, _], _ => rfl)⟩⟩
theorem a23 (KX : K.In h) (N : h.Ns mainGlobals mg) (c : He.SaysD fcs fns K) (CAT : CatAll P w K mg base) (n : Nat) (m : Mg (GK K) fr is ss cs mg) (ih : ∀ (j : Nat) q, tbl[j]? = some q → Fn1 (GK K) P w mg base Φ tf n q.1 q.2.1 q.2.2) : Fn1 (GK K) P w mg base Φ tf (n + 1) (tbl.getD 23 (0, false, "")).1 (tbl.getD 23 (0, false, "")).2.1 (tbl.getD 23 (0, false, "")).2.2 := by
  obtain ⟨fd, F⟩ := c.def_ 23 (d := d23) rfl
  exact ⟨⟨_, fd, ["_law_pattern", "_law_one"], w23 (G := GK K) m ih F, He.glo_ok KX N (c.fact 23 (f := .glo "_law_begins_in") rfl), F.kp, (F.bindsN fun _ _ _ _ _ _ us hl => match us, hl with | [_, _], _ => rfl)⟩⟩
theorem z24 (KX : K.In h) (N : h.Ns mainGlobals mg) (c : He.SaysD fcs fns K) : Fn1 (GK K) P w mg base Φ tf 0 (tbl.getD 24 (0, false, "")).1 (tbl.getD 24 (0, false, "")).2.1 (tbl.getD 24 (0, false, "")).2.2 := by
  obtain ⟨fd, F⟩ := c.def_ 24 (d := d24) rfl
  exact ⟨⟨_, fd, ["_law_pattern", "_law_one"], fnX_zero, He.glo_ok KX N (c.fact 24 (f := .glo "_law_ends_in") rfl), F.kp, (F.bindsN fun _ _ _ _ _ _ us hl => match us, hl with | [_, _], _ => rfl)⟩⟩
theorem a24 (KX : K.In h) (N : h.Ns mainGlobals mg) (c : He.SaysD fcs fns K) (CAT : CatAll P w K mg base) (n : Nat) (m : Mg (GK K) fr is ss cs mg) (ih : ∀ (j : Nat) q, tbl[j]? = some q → Fn1 (GK K) P w mg base Φ tf n q.1 q.2.1 q.2.2) : Fn1 (GK K) P w mg base Φ tf (n + 1) (tbl.getD 24 (0, false, "")).1 (tbl.getD 24 (0, false, "")).2.1 (tbl.getD 24 (0, false, "")).2.2 := by
  obtain ⟨fd, F⟩ := c.def_ 24 (d := d24) rfl
  exact ⟨⟨_, fd, ["_law_pattern", "_law_one"], w24 (G := GK K) m ih F, He.glo_ok KX N (c.fact 24 (f := .glo "_law_ends_in") rfl), F.kp, (F.bindsN fun _ _ _ _ _ _ us hl => match us, hl with | [_, _], _ => rfl)⟩⟩
theorem z26 (KX : K.In h) (N : h.Ns mainGlobals mg) (c : He.SaysD fcs fns K) : Fn1 (GK K) P w mg base Φ tf 0 (tbl.getD 25 (0, false, "")).1 (tbl.getD 25 (0, false, "")).2.1 (tbl.getD 25 (0, false, "")).2.2 := by
  obtain ⟨fd, F⟩ := c.def_ 26 (d := d26) rfl
  exact ⟨⟨_, fd, ["_law_bag", "_law_pattern"], fnX_zero, He.glo_ok KX N (c.fact 26 (f := .glo "_law_near_text") rfl), F.kp, (F.bindsN fun _ _ _ _ _ _ us hl => match us, hl with | [_, _], _ => rfl)⟩⟩
theorem a26 (KX : K.In h) (N : h.Ns mainGlobals mg) (c : He.SaysD fcs fns K) (CAT : CatAll P w K mg base) (n : Nat) (m : Mg (GK K) fr is ss cs mg) (ih : ∀ (j : Nat) q, tbl[j]? = some q → Fn1 (GK K) P w mg base Φ tf n q.1 q.2.1 q.2.2) : Fn1 (GK K) P w mg base Φ tf (n + 1) (tbl.getD 25 (0, false, "")).1 (tbl.getD 25 (0, false, "")).2.1 (tbl.getD 25 (0, false, "")).2.2 := by
  obtain ⟨fd, F⟩ := c.def_ 26 (d := d26) rfl
  exact ⟨⟨_, fd, ["_law_bag", "_law_pattern"], w26 (G := GK K) m ih F, He.glo_ok KX N (c.fact 26 (f := .glo "_law_near_text") rfl), F.kp, (F.bindsN fun _ _ _ _ _ _ us hl => match us, hl with | [_, _], _ => rfl)⟩⟩
theorem z27 (KX : K.In h) (N : h.Ns mainGlobals mg) (c : He.SaysD fcs fns K) : Fn1 (GK K) P w mg base Φ tf 0 (tbl.getD 26 (0, false, "")).1 (tbl.getD 26 (0, false, "")).2.1 (tbl.getD 26 (0, false, "")).2.2 := by
  obtain ⟨fd, F⟩ := c.def_ 27 (d := d27) rfl
  exact ⟨⟨_, fd, ["_law_pattern", "_law_one"], fnX_zero, He.glo_ok KX N (c.fact 27 (f := .glo "_law_judged_right") rfl), F.kp, (F.bindsN fun _ _ _ _ _ _ us hl => match us, hl with | [_, _], _ => rfl)⟩⟩
theorem a27 (KX : K.In h) (N : h.Ns mainGlobals mg) (c : He.SaysD fcs fns K) (CAT : CatAll P w K mg base) (n : Nat) (m : Mg (GK K) fr is ss cs mg) (ih : ∀ (j : Nat) q, tbl[j]? = some q → Fn1 (GK K) P w mg base Φ tf n q.1 q.2.1 q.2.2) : Fn1 (GK K) P w mg base Φ tf (n + 1) (tbl.getD 26 (0, false, "")).1 (tbl.getD 26 (0, false, "")).2.1 (tbl.getD 26 (0, false, "")).2.2 := by
  obtain ⟨fd, F⟩ := c.def_ 27 (d := d27) rfl
  exact ⟨⟨_, fd, ["_law_pattern", "_law_one"], w27 (G := GK K) m ih F, He.glo_ok KX N (c.fact 27 (f := .glo "_law_judged_right") rfl), F.kp, (F.bindsN fun _ _ _ _ _ _ us hl => match us, hl with | [_, _], _ => rfl)⟩⟩
theorem z28 (KX : K.In h) (N : h.Ns mainGlobals mg) (c : He.SaysD fcs fns K) : Fn1 (GK K) P w mg base Φ tf 0 (tbl.getD 27 (0, false, "")).1 (tbl.getD 27 (0, false, "")).2.1 (tbl.getD 27 (0, false, "")).2.2 := by
  obtain ⟨fd, F⟩ := c.def_ 28 (d := d28) rfl
  exact ⟨⟨_, fd, ["_law_bag", "_law_pattern"], fnX_zero, He.glo_ok KX N (c.fact 28 (f := .glo "_law_bad_patterns") rfl), F.kp, (F.bindsN fun _ _ _ _ _ _ us hl => match us, hl with | [_, _], _ => rfl)⟩⟩
theorem a28 (KX : K.In h) (N : h.Ns mainGlobals mg) (c : He.SaysD fcs fns K) (CAT : CatAll P w K mg base) (n : Nat) (m : Mg (GK K) fr is ss cs mg) (ih : ∀ (j : Nat) q, tbl[j]? = some q → Fn1 (GK K) P w mg base Φ tf n q.1 q.2.1 q.2.2) : Fn1 (GK K) P w mg base Φ tf (n + 1) (tbl.getD 27 (0, false, "")).1 (tbl.getD 27 (0, false, "")).2.1 (tbl.getD 27 (0, false, "")).2.2 := by
  obtain ⟨fd, F⟩ := c.def_ 28 (d := d28) rfl
  exact ⟨⟨_, fd, ["_law_bag", "_law_pattern"], w28 (G := GK K) m ih F, He.glo_ok KX N (c.fact 28 (f := .glo "_law_bad_patterns") rfl), F.kp, (F.bindsN fun _ _ _ _ _ _ us hl => match us, hl with | [_, _], _ => rfl)⟩⟩
theorem z29 (KX : K.In h) (N : h.Ns mainGlobals mg) (c : He.SaysD fcs fns K) : Fn1 (GK K) P w mg base Φ tf 0 (tbl.getD 28 (0, false, "")).1 (tbl.getD 28 (0, false, "")).2.1 (tbl.getD 28 (0, false, "")).2.2 := by
  obtain ⟨fd, F⟩ := c.def_ 29 (d := d29) rfl
  exact ⟨⟨_, fd, ["_law_bag", "_law_pattern", "_law_one"], fnX_zero, He.glo_ok KX N (c.fact 29 (f := .glo "_law_refused_right") rfl), F.kp, (F.bindsN fun _ _ _ _ _ _ us hl => match us, hl with | [_, _, _], _ => rfl)⟩⟩
theorem a29 (KX : K.In h) (N : h.Ns mainGlobals mg) (c : He.SaysD fcs fns K) (CAT : CatAll P w K mg base) (n : Nat) (m : Mg (GK K) fr is ss cs mg) (ih : ∀ (j : Nat) q, tbl[j]? = some q → Fn1 (GK K) P w mg base Φ tf n q.1 q.2.1 q.2.2) : Fn1 (GK K) P w mg base Φ tf (n + 1) (tbl.getD 28 (0, false, "")).1 (tbl.getD 28 (0, false, "")).2.1 (tbl.getD 28 (0, false, "")).2.2 := by
  obtain ⟨fd, F⟩ := c.def_ 29 (d := d29) rfl
  exact ⟨⟨_, fd, ["_law_bag", "_law_pattern", "_law_one"], w29 (G := GK K) m ih (fun cdv A outer s H E hc hr => CAT n cdv A outer s H E hc hr m ih) F, He.glo_ok KX N (c.fact 29 (f := .glo "_law_refused_right") rfl), F.kp, (F.bindsN fun _ _ _ _ _ _ us hl => match us, hl with | [_, _, _], _ => rfl)⟩⟩
theorem z30 (KX : K.In h) (N : h.Ns mainGlobals mg) (c : He.SaysD fcs fns K) : Fn1 (GK K) P w mg base Φ tf 0 (tbl.getD 29 (0, false, "")).1 (tbl.getD 29 (0, false, "")).2.1 (tbl.getD 29 (0, false, "")).2.2 := by
  obtain ⟨fd, F⟩ := c.def_ 30 (d := d30) rfl
  exact ⟨⟨_, fd, ["_law_script"], fnX_zero, He.glo_ok KX N (c.fact 30 (f := .glo "law") rfl), F.kp, (F.bindsN fun _ _ _ _ _ _ us hl => match us, hl with | [_], _ => rfl)⟩⟩
theorem a30 (KX : K.In h) (N : h.Ns mainGlobals mg) (c : He.SaysD fcs fns K) (CAT : CatAll P w K mg base) (n : Nat) (m : Mg (GK K) fr is ss cs mg) (ih : ∀ (j : Nat) q, tbl[j]? = some q → Fn1 (GK K) P w mg base Φ tf n q.1 q.2.1 q.2.2) : Fn1 (GK K) P w mg base Φ tf (n + 1) (tbl.getD 29 (0, false, "")).1 (tbl.getD 29 (0, false, "")).2.1 (tbl.getD 29 (0, false, "")).2.2 := by
  obtain ⟨fd, F⟩ := c.def_ 30 (d := d30) rfl
  exact ⟨⟨_, fd, ["_law_script"], w30 (G := GK K) m ih F, He.glo_ok KX N (c.fact 30 (f := .glo "law") rfl), F.kp, (F.bindsN fun _ _ _ _ _ _ us hl => match us, hl with | [_], _ => rfl)⟩⟩
theorem zs (KX : K.In h) (N : h.Ns mainGlobals mg) (c : He.SaysD fcs fns K) : ∀ j : Nat, j < 30 → Fn1 (GK K) P w mg base Φ tf 0 (tbl.getD j (0, false, "")).1 (tbl.getD j (0, false, "")).2.1 (tbl.getD j (0, false, "")).2.2
  | 0, _ => z0 KX N c
  | 1, _ => z1 KX N c
  | 2, _ => z2 KX N c
  | 3, _ => z3 KX N c
  | 4, _ => z4 KX N c
  | 5, _ => z5 KX N c
  | 6, _ => z6 KX N c
  | 7, _ => z7 KX N c
  | 8, _ => z8 KX N c
  | 9, _ => z9 KX N c
  | 10, _ => z10 KX N c
  | 11, _ => z11 KX N c
  | 12, _ => z12 KX N c
  | 13, _ => z13 KX N c
  | 14, _ => z14 KX N c
  | 15, _ => z15 KX N c
  | 16, _ => z16 KX N c
  | 17, _ => z17 KX N c
  | 18, _ => z18 KX N c
  | 19, _ => z19 KX N c
  | 20, _ => z20 KX N c
  | 21, _ => z21 KX N c
  | 22, _ => z22 KX N c
  | 23, _ => z23 KX N c
  | 24, _ => z24 KX N c
  | 25, _ => z26 KX N c
  | 26, _ => z27 KX N c
  | 27, _ => z28 KX N c
  | 28, _ => z29 KX N c
  | 29, _ => z30 KX N c
  | j + 30, h => absurd h (Nat.not_lt.mpr (Nat.le_add_left _ _))
theorem as (KX : K.In h) (N : h.Ns mainGlobals mg) (c : He.SaysD fcs fns K) (CAT : CatAll P w K mg base) (n : Nat) (m : Mg (GK K) fr is ss cs mg) (ih : ∀ (j : Nat) q, tbl[j]? = some q → Fn1 (GK K) P w mg base Φ tf n q.1 q.2.1 q.2.2) : ∀ j : Nat, j < 30 → Fn1 (GK K) P w mg base Φ tf (n + 1) (tbl.getD j (0, false, "")).1 (tbl.getD j (0, false, "")).2.1 (tbl.getD j (0, false, "")).2.2
  | 0, _ => a0 KX N c CAT n m ih
  | 1, _ => a1 KX N c CAT n m ih
  | 2, _ => a2 KX N c CAT n m ih
  | 3, _ => a3 KX N c CAT n m ih
  | 4, _ => a4 KX N c CAT n m ih
  | 5, _ => a5 KX N c CAT n m ih
  | 6, _ => a6 KX N c CAT n m ih
  | 7, _ => a7 KX N c CAT n m ih
  | 8, _ => a8 KX N c CAT n m ih
  | 9, _ => a9 KX N c CAT n m ih
  | 10, _ => a10 KX N c CAT n m ih
  | 11, _ => a11 KX N c CAT n m ih
  | 12, _ => a12 KX N c CAT n m ih
  | 13, _ => a13 KX N c CAT n m ih
  | 14, _ => a14 KX N c CAT n m ih
  | 15, _ => a15 KX N c CAT n m ih
  | 16, _ => a16 KX N c CAT n m ih
  | 17, _ => a17 KX N c CAT n m ih
  | 18, _ => a18 KX N c CAT n m ih
  | 19, _ => a19 KX N c CAT n m ih
  | 20, _ => a20 KX N c CAT n m ih
  | 21, _ => a21 KX N c CAT n m ih
  | 22, _ => a22 KX N c CAT n m ih
  | 23, _ => a23 KX N c CAT n m ih
  | 24, _ => a24 KX N c CAT n m ih
  | 25, _ => a26 KX N c CAT n m ih
  | 26, _ => a27 KX N c CAT n m ih
  | 27, _ => a28 KX N c CAT n m ih
  | 28, _ => a29 KX N c CAT n m ih
  | 29, _ => a30 KX N c CAT n m ih
  | j + 30, h => absurd h (Nat.not_lt.mpr (Nat.le_add_left _ _))
theorem by_ix {Pr : Nat → Bool → PySem.Str → Prop} (H : ∀ j, j < 30 → Pr (tbl.getD j (0, false, "")).1 (tbl.getD j (0, false, "")).2.1 (tbl.getD j (0, false, "")).2.2) (j : Nat) (q : Nat × Bool × PySem.Str) (e : tbl[j]? = some q) : Pr q.1 q.2.1 q.2.2 := by
  have hj : j < 30 := (List.getElem?_eq_some_iff.mp e).1
  have h := H j hj
  rw [List.getD_eq_getElem?_getD, e] at h
  exact h
theorem all (KX : K.In h) (N : h.Ns mainGlobals mg) (c : He.SaysD fcs fns K) (CAT : CatAll P w K mg base) : ∀ (n j : Nat) q, tbl[j]? = some q → Fn1 (GK K) P w mg base Φ tf n q.1 q.2.1 q.2.2
  | 0 => by_ix (Pr := fun i b x => Fn1 (GK K) P w mg base Φ tf 0 i b x) (zs KX N c)
  | n + 1 => by_ix (Pr := fun i b x => Fn1 (GK K) P w mg base Φ tf (n + 1) i b x) (as KX N c CAT n (mgs KX N c) (all KX N c CAT n))
end
theorem ba4 {a b : Bool} (h : (a && b) = true) : a = true ∧ b = true := Bool.and_eq_true_iff.mp h
theorem excC_of {K : PySem.W.Frag} {x : PySem.Str} (h : excB K x = true) : ExcC K (He.ga K x) := by
  unfold excB at h
  simp only [Bool.and_eq_true, decide_eq_true_eq] at h
  obtain ⟨⟨⟨⟨⟨⟨⟨h1, h2⟩, h3⟩, h4⟩, h5⟩, h6⟩, h7⟩, h8⟩ := h
  exact ⟨h1, h2, h3, h4, h5, h6, h7, h8⟩
theorem tbm (K : PySem.W.Frag) : ((He.cT K ("_law_refused_right", none)).2, (("_law_refused_right" : PySem.Str) ++ (".<locals>." : PySem.Str)) ++ ("<lambda>" : PySem.Str)) ∈ (GK K).tb := List.mem_cons_self
theorem tbu (K : PySem.W.Frag) (P : Addr) : ∀ p ∈ (GK K).tb, p.1 = P → p.2 = (("_law_refused_right" : PySem.Str) ++ (".<locals>." : PySem.Str)) ++ ("<lambda>" : PySem.Str) := fun p hp _ => by
  cases hp with
  | head => exact Eq.refl _
  | tail _ h => cases h
theorem tbmX {K : PySem.W.Frag} {X : Cx} (q : X.env.qual = (("_law_refused_right" : PySem.Str) ++ (".<locals>." : PySem.Str))) : ((He.cT K ("_law_refused_right", none)).2, X.env.qual ++ "<lambda>") ∈ (Lk (GK K)).G.tb := by rw [q]; exact tbm K
theorem tbuX {K : PySem.W.Frag} {X : Cx} {P : Addr} (q : X.env.qual = (("_law_refused_right" : PySem.Str) ++ (".<locals>." : PySem.Str))) : ∀ p ∈ (Lk (GK K)).G.tb, p.1 = P → p.2 = X.env.qual ++ "<lambda>" := by rw [q]; exact tbu K P
theorem cats {P : Program} {w : World} {K : PySem.W.Frag} {h base : Heap} {mg : PySem.Str → Option Value} (KX : K.In h) (N : h.Ns mainGlobals mg) (c : He.SaysD fcs fns K) (hm : more K = true) (TB : LamX.TabB base mg (He.cT K ("_law_refused_right", none)).1 (He.cT K ("_law_refused_right", none)).2) : CatAll P w K mg base := by
  intro n cdv A outer s H E hc hr m ih
  obtain ⟨fdT, FT⟩ := c.def_ 25 (d := d25) rfl
  have hb : L2.Binds K fdT ["_law_call"] [] := FT.bindsN fun _ _ _ _ _ _ us hl => match us, hl with | [_], _ => rfl
  have kp := FT.kp
  obtain ⟨oc, od, dV, kV, doc, pm, an, cdvT, ct, osl, rfl, lk, hcd, _, _⟩ := FT.ex
  obtain ⟨oc', od', osl', fd', lk', rfl, hcd'⟩ := hc
  obtain ⟨c0, ec⟩ := He.codeIn_ref hcd'
  have e := He.codeOf_eq (p := ("_law_refused_right", none)) lk' ec
  unfold more moreB at hm
  simp only [Bool.and_eq_true] at hm
  obtain ⟨⟨⟨⟨⟨m1, m2⟩, m3⟩, m4⟩, m5⟩, m6⟩ := hm
  refine ⟨⟨"_law_call", He.ga K "_law_told", (He.cT K ("_law_refused_right", none)).1, (He.cT K ("_law_refused_right", none)).2, _, _, _, dV, kV, doc, pm, cdvT, ct, oc, an, od, osl, NT, TT K (He.ga K "InvalidBook") (He.ga K "InvalidText"), He.glo_ok KX N (c.fact 25 (f := .glo "_law_told") rfl), kp, lk, hcd, hb, ST, rfl, Or.inl rfl, by decide, by decide,
    told_gives (He.glo_ok KX N (c.fact 31 (f := .glo "MarkError") rfl)) (He.glo_ok KX N (c.fact 33 (f := .glo "InvalidBook") rfl)) (He.glo_ok KX N (c.fact 32 (f := .glo "InvalidText") rfl)) (He.free_ok KX N (c.fact 44 (f := .free "isinstance") rfl))
      (He.exm_ok (c.fact 59 (f := .exm "InvalidBook" "MarkError" true) rfl)) (He.exm_ok (c.fact 58 (f := .exm "InvalidText" "MarkError" true) rfl)) (excC_of m2) (excC_of m1) (of_decide_eq_true m6) (of_decide_eq_true m5) (of_decide_eq_true m4) (of_decide_eq_true m3),
    TB, ?_, tbmX (X := cxOf (L2.CX P w) P w K mg base N29 "_law_refused_right" (defScope s29) (He.fAd K ("_law_refused_right", none)) fd'.code A outer s H E) rfl, ?_, hr, ?_⟩⟩
  · show fd'.code = .ref (He.codeOf K ("_law_refused_right", none))
    rw [e, ec]
  · exact tbuX (K := K) (Eq.refl (("_law_refused_right" : PySem.Str) ++ (".<locals>." : PySem.Str)))
  · intro A' σt W σ Q E' ok rs p
    refine ⟨W, σ, rfl, ok, rs, ?_⟩
    have p : PostE (GK K) W (tf 0 (evE ((Lk (GK K)).Γ n) A' σ W.h)) Q E' := p
    generalize evE ((Lk (GK K)).Γ n) A' σ W.h = r at p
    cases r with
    | bad => exact p
    | ok t h' => exact fun W' b e ex ok' _ => p W' _ e ex ok' ⟨rfl, by show 8 ≤ sizeLine; decide⟩
    | exc k ts h' =>
      match k, p with
      | 0, p => exact False.elim p
      | 1, p => exact fun W' cls d e ex ok' r => ⟨r.2, .inr ⟨r.1, fun H'' hx => p ⟨H'', W'.β, W'.h⟩ _ e (ex.trans (.grow (.of hx))) (ok'.grow (.of hx) (ok'.tabs.ext hx)) ⟨rfl, by show 4 ≤ sizeLine; decide⟩⟩⟩
      | 2, p => exact fun W' cls d e ex ok' r => ⟨r.2, .inl ⟨r.1, fun H'' hx => p ⟨H'', W'.β, W'.h⟩ _ e (ex.trans (.grow (.of hx))) (ok'.grow (.of hx) (ok'.tabs.ext hx)) ⟨rfl, by show 4 ≤ sizeLine; decide⟩⟩⟩
      | k + 3, p => exact False.elim p
/-- the plain law -/
def Plain : Prop := ∀ ns : List Int, ns.length ≤ 63 → ∃ h, Tw.call Φ tf 60 30 [.lst (ns.map .int)] [] = .ok (.bl true) h
theorem ints_rts {G : Gx} {W : Wd} : ∀ ns : List Int, RTs G W (ns.map T.int) (ns.map V.int)
  | [] => rfl
  | n :: ns => ⟨_, _, rfl, rfl, ints_rts ns⟩
theorem the_end (plain : Plain) {w : World} {mg : PySem.Str → Option Value} {fa : Addr} {h : Heap} {K : PySem.W.Frag} {P : Program} (KX : K.In h) (N : h.Ns mainGlobals mg) (hmg : mg "law" = some (.ref fa)) (c : He.SaysX fcs fns [] tfs more w h K) : End P w K 180 63 "_law_script" mg fa h := by
  have cd := c.t.d
  obtain ⟨fd, F⟩ := cd.def_ 30 (d := d30) rfl
  have e := hmg.symm.trans (He.glo_ok KX N (cd.fact 30 (f := .glo "law") rfl))
  cases e
  have hb := FunD.bindsA (ps := ["_law_script"]) F fun _ _ _ _ _ _ us hl => match us, hl with | [_], _ => rfl
  refine ⟨⟨true, fd, [He.cT K ("_law_refused_right", none)], spF (GK K) Φ tf 60 30, fun p hp => ?_, fun p hp => ?_, fun p hp => ?_, fun s v => hb s [v] rfl, fun H a ns hl _ hT hS => ?_, fun base _ hN TB => ?_⟩⟩
  · rw [List.mem_singleton.mp hp]; exact c.empty _ (List.mem_singleton.mpr rfl)
  · rw [List.mem_singleton.mp hp]; exact c.out _ (List.mem_singleton.mpr rfl)
  · rw [List.mem_singleton.mp hp]; exact PySem.W.codeHd_of_K KX (c.hd _ (List.mem_singleton.mpr rfl))
  · obtain ⟨h', e⟩ := plain ns hl
    refine ⟨⟨H, [], []⟩, [.lst (ns.map .int)], rfl, ⟨rfl, fun i mo a e => by simp at e, fun i j a mi mj e => by simp at e, fun p hp => ?_⟩, ⟨.ref a, [], rfl, ⟨a, ns.map .int, rfl, hS.elim (fun q => .inl ⟨q, fun ⟨i, m, q, _⟩ => by simp at q⟩) .inr, ints_rts ns⟩, rfl⟩, ?_⟩
    · rw [List.mem_singleton.mp hp]
      exact LamX.TabS.nil (hT _ (List.mem_singleton.mpr rfl))
    · show PostE (GK K) _ (Tw.call Φ tf 60 30 [.lst (ns.map .int)] []) _ _
      rw [e]
      exact fun W' b _ _ _ r => r
  · have A := all (P := P) (w := w) (base := base) KX N cd (cats KX N cd c.more (TB _ (List.mem_singleton.mpr rfl)))
    obtain ⟨fd', F'⟩ := cd.def_ 30 (d := d30) rfl
    have X := w30 (G := GK K) (P := P) (w := w) (base := base) (mgs KX N cd) (A 59) F
    exact X
end K60
end
/-! part K60z -/
section
set_option Elab.async false
set_option linter.all false
set_option maxRecDepth 100000
set_option maxHeartbeats 0
/-! K60z: law k60, from the plain law. -/
open PySem PySem.W PySem.Calls PyProof.Rows
theorem k60_of (plain : K60.Plain) : PySem.Challenge.rw_fewmarks_k60_patterns.Holds := by
  w_on; o_law
  refine HandSHeadRun.head_any (r := OpenLaw.row PySem.Challenge.rw_fewmarks_k60_patterns) (q := Hd.qv) (H := Hd.hk) (ob := Hd.ob) (M := Hd.M) (loose := Hd.loose) (d := HandSHeadRun.topDef (OpenLaw.row PySem.Challenge.rw_fewmarks_k60_patterns).prog Hd.lawAt) (kwd := []) Hd.ob_eq
    (by kernel_rfl) (fun s => by kernel_rfl) Hd.run (by kernel_rfl) (by kernel_rfl) (by kernel_rfl) (by rfl) (by first | assumption | decide +kernel) (by decide +kernel) ⟨rfl, rfl, rfl, rfl, rfl, by decide +kernel⟩ ?hw ?hc
  case hw => w_witness2
  case hc =>
    refine Tw.end_walk (l := PySem.Challenge.rw_fewmarks_k60_patterns) (n := 63) (k := 180) (x := "_law_script") rfl (by decide) (by kernel_rfl) ⟨rfl, by decide, by decide⟩ ?F
    intro w mg fa h Y G hmg0
    obtain ⟨K, KX, c⟩ := Y
    have hmg : mg ("law" : PySem.Str) = some (.ref fa) := by
      have e : (HandSHeadRun.topDef (OpenLaw.row PySem.Challenge.rw_fewmarks_k60_patterns).prog Hd.lawAt).name = ("law" : PySem.Str) := by kernel_rfl
      rw [← e]
      exact hmg0
    exact ⟨K, KX, K60.the_end plain KX G hmg c⟩
end
/-! part K60d -/
section
set_option autoImplicit false
set_option linter.all false
set_option maxRecDepth 10000
/-! K60d: the drawing functions of law k60. -/
namespace K60
open Tw
/-- the bag at j -/
def bag (a b c : Int) : Option MO := some (.lst [.int a, .int b, .int c])
theorem lk_bag {h : Hm} {j : Nat} {a b c : Int} (e : h[j]? = some (bag a b c)) : look h (.ref j) = .lst [.int a, .int b, .int c] := by
  simp only [look, e, bag]
theorem und_bag (n : Nat) (a b c : Int) : MO.und n (.lst [.int a, .int b, .int c]) = true := rfl
theorem set_bag {h : Hm} {j : Nat} {a b c : Int} (e : h[j]? = some (bag a b c)) (o : Option MO) : (h.set j o)[j]? = some o := List.getElem?_set_self (List.getElem?_eq_some_iff.mp e).1
theorem b0_ (a b c : Int) : ixO (.lst [.int a, .int b, .int c]) (.int 0) = some (.int a) := rfl
theorem b1_ (a b c : Int) : ixO (.lst [.int a, .int b, .int c]) (.int 1) = some (.int b) := rfl
theorem b2_ (a b c : Int) : ixO (.lst [.int a, .int b, .int c]) (.int 2) = some (.int c) := rfl
theorem set0 {h : Hm} {j : Nat} {a b c : Int} (e : h[j]? = some (bag a b c)) (x : Int) : setR (.ref j) (.int 0) (.int x) h = .ok () (h.set j (bag x b c)) := by
  simp only [setR, e, bag]
  rfl
theorem set2 {h : Hm} {j : Nat} {a b c : Int} (e : h[j]? = some (bag a b c)) (x : Int) : setR (.ref j) (.int 2) (.int x) h = .ok () (h.set j (bag a b x)) := by
  simp only [setR, e, bag]
  rfl
theorem md {i j : Int} (h : 0 < j) : opO .mod (.int i) (.int j) = some (.int (i % j)) := by simp [opO, h]
theorem fd {i j : Int} (h : 0 < j) (k : j < 1073741824) : opO .fdiv (.int i) (.int j) = some (.int (i / j)) := by simp [opO, h, k]
theorem ad {i j : Int} : opO .add (.int i) (.int j) = some (.int (i + j)) := rfl
theorem ml {i j : Int} (h : mulOk i j = true) : opO .mul (.int i) (.int j) = some (.int (i * j)) := by simp [opO, h]
theorem mlL {i j : Int} (h : -(2 ^ 64) < i) (k : i < 2 ^ 64) : mulOk i j = true := by simp only [mulOk, h, k]; rfl
theorem bint (i : Int) : biO .int [.int i] = some (.int i) := rfl
theorem sp17 (n j : Nat) (t a b c : Int) (h : Hm) (ht : 0 < t) (ht2 : t < 1073741824) (e : h[j]? = some (bag a b c)) :
    ∃ r a' b' c' : Int, 0 ≤ r ∧ r < t ∧ call Φ tf (n + 1) 17 [.ref j, .int t] h = .ok (.int r) (h.set j (bag a' b' c')) := by
  have lk := lk_bag e
  by_cases ha : 0 < a
  · refine ⟨a % t, a / t, b, c, Int.emod_nonneg _ (by omega), Int.emod_lt_of_pos _ ht, ?_⟩
    rw [call_eq (d := ⟨2, 5, b17⟩) rfl rfl, b17]
    have d1 : decide ((0 : Int) < a) = true := decide_eq_true ha
    rw [ss_ret (t := .int (a % t)) (h' := h.set j (bag (a / t) b c))]
    · exact leave_set0 rfl rfl
    · simp only [evSs, evS, evB, evE, evEs, evI, List.map_cons, List.map_nil, List.replicate, List.cons_append, List.nil_append, List.getElem?_cons_zero, List.getElem?_cons_succ, List.set_cons_zero, List.set_cons_succ, R_ok, R_exc, lk_str, lk_int, lk_bl, lk_non, lk_tup, lk_lst, tr_bl, Option.map_some, ofO_s, mkF, if_pos, if_neg Bool.false_ne_true, Bool.not_true, Bool.not_false, Tg.put, Tg.puts, Option.bind_some, lk, b0_, cmO, d1, bint, md ht, fd ht ht2, set0 e]
  · have e' := set_bag e (bag a b (c + 1))
    have lk' := lk_bag e'
    have d1 : decide ((0 : Int) < a) = false := decide_eq_false ha
    obtain ⟨x, hx⟩ : ∃ x, x = (b + 1000403 * (c + 1)) % 2305843009213693951 := ⟨_, rfl⟩
    obtain ⟨y, hy⟩ : ∃ y, y = x * x % 2305843009213693951 * x + 8111 * (c + 1) := ⟨_, rfl⟩
    have hx0 : 0 ≤ x := hx ▸ Int.emod_nonneg _ (by decide)
    have hx1 : x < 2305843009213693951 := hx ▸ Int.emod_lt_of_pos _ (by decide)
    have hz0 : 0 ≤ x * x % 2305843009213693951 := Int.emod_nonneg _ (by decide)
    have hz1 : x * x % 2305843009213693951 < 2305843009213693951 := Int.emod_lt_of_pos _ (by decide)
    have m1 : mulOk 1000403 (c + 1) = true := mlL (by decide) (by decide)
    have m2 : mulOk x x = true := mlL (by omega) (by omega)
    have m3 : mulOk (x * x % 2305843009213693951) x = true := mlL (by omega) (by omega)
    have m4 : mulOk 8111 (c + 1) = true := mlL (by decide) (by decide)
    have q1 : (0 : Int) < 2305843009213693951 := by decide
    have q2 : (0 : Int) < 2305843009213693907 := by decide
    have q3 : (0 : Int) < 8192 := by decide
    have q4 : (8192 : Int) < 1073741824 := by decide
    refine ⟨y % 2305843009213693907 / 8192 % t, a, b, c + 1, Int.emod_nonneg _ (by omega), Int.emod_lt_of_pos _ ht, ?_⟩
    rw [call_eq (d := ⟨2, 5, b17⟩) rfl rfl, b17]
    rw [ss_step (σ' := [some (.ref j), some (.int t), none, none, none]) (h' := h) (by simp only [evSs, evS, evB, evE, evEs, evI, List.map_cons, List.map_nil, List.replicate, List.cons_append, List.nil_append, List.getElem?_cons_zero, List.getElem?_cons_succ, List.set_cons_zero, List.set_cons_succ, R_ok, R_exc, lk_str, lk_int, lk_bl, lk_non, lk_tup, lk_lst, tr_bl, Option.map_some, ofO_s, mkF, if_pos, if_neg Bool.false_ne_true, Bool.not_true, Bool.not_false, Tg.put, Tg.puts, Option.bind_some, lk, b0_, cmO, d1])]
    rw [ss_step (σ' := [some (.ref j), some (.int t), none, none, none]) (h' := h.set j (bag a b (c + 1))) (by simp only [evSs, evS, evB, evE, evEs, evI, List.map_cons, List.map_nil, List.replicate, List.cons_append, List.nil_append, List.getElem?_cons_zero, List.getElem?_cons_succ, List.set_cons_zero, List.set_cons_succ, R_ok, R_exc, lk_str, lk_int, lk_bl, lk_non, lk_tup, lk_lst, tr_bl, Option.map_some, ofO_s, mkF, if_pos, if_neg Bool.false_ne_true, Bool.not_true, Bool.not_false, Tg.put, Tg.puts, Option.bind_some, lk, b2_, ad, set2 e])]
    rw [ss_step (σ' := [some (.ref j), some (.int t), some (.int x), none, none]) (h' := h.set j (bag a b (c + 1))) (by simp only [evSs, evS, evB, evE, evEs, evI, List.map_cons, List.map_nil, List.replicate, List.cons_append, List.nil_append, List.getElem?_cons_zero, List.getElem?_cons_succ, List.set_cons_zero, List.set_cons_succ, R_ok, R_exc, lk_str, lk_int, lk_bl, lk_non, lk_tup, lk_lst, tr_bl, Option.map_some, ofO_s, mkF, if_pos, if_neg Bool.false_ne_true, Bool.not_true, Bool.not_false, Tg.put, Tg.puts, Option.bind_some, lk', b1_, b2_, ad, ml m1, md q1, bint, ← hx])]
    rw [ss_step (σ' := [some (.ref j), some (.int t), some (.int x), some (.int y), none]) (h' := h.set j (bag a b (c + 1))) (by simp only [evSs, evS, evB, evE, evEs, evI, List.map_cons, List.map_nil, List.replicate, List.cons_append, List.nil_append, List.getElem?_cons_zero, List.getElem?_cons_succ, List.set_cons_zero, List.set_cons_succ, R_ok, R_exc, lk_str, lk_int, lk_bl, lk_non, lk_tup, lk_lst, tr_bl, Option.map_some, ofO_s, mkF, if_pos, if_neg Bool.false_ne_true, Bool.not_true, Bool.not_false, Tg.put, Tg.puts, Option.bind_some, lk', b1_, b2_, ad, ml m2, ml m3, ml m4, md q1, bint, ← hy])]
    rw [ss_step (σ' := [some (.ref j), some (.int t), some (.int x), some (.int (y % 2305843009213693907)), none]) (h' := h.set j (bag a b (c + 1))) (by simp only [evSs, evS, evB, evE, evEs, evI, List.map_cons, List.map_nil, List.replicate, List.cons_append, List.nil_append, List.getElem?_cons_zero, List.getElem?_cons_succ, List.set_cons_zero, List.set_cons_succ, R_ok, R_exc, lk_str, lk_int, lk_bl, lk_non, lk_tup, lk_lst, tr_bl, Option.map_some, ofO_s, mkF, if_pos, if_neg Bool.false_ne_true, Bool.not_true, Bool.not_false, Tg.put, Tg.puts, Option.bind_some, md q2, bint])]
    rw [ss_ret (t := .int (y % 2305843009213693907 / 8192 % t)) (h' := h.set j (bag a b (c + 1))) (by simp only [evSs, evS, evB, evE, evEs, evI, List.map_cons, List.map_nil, List.replicate, List.cons_append, List.nil_append, List.getElem?_cons_zero, List.getElem?_cons_succ, List.set_cons_zero, List.set_cons_succ, R_ok, R_exc, lk_str, lk_int, lk_bl, lk_non, lk_tup, lk_lst, tr_bl, Option.map_some, ofO_s, mkF, if_pos, if_neg Bool.false_ne_true, Bool.not_true, Bool.not_false, Tg.put, Tg.puts, Option.bind_some, md ht, fd q3 q4, bint])]
    exact leave_set0 rfl rfl
/-- _law_pick: an item of a list, a sign of a text -/
theorem sp18l (n j : Nat) (l : List T) (a b c : Int) (h : Hm) (hl : l ≠ []) (hz : l.length < 1000) (hu : ∀ t ∈ l, t.und h.length = true) (e : h[j]? = some (bag a b c)) :
    ∃ (t : T) (a' b' c' : Int), t ∈ l ∧ call Φ tf (n + 2) 18 [.ref j, .lst l] h = .ok t (h.set j (bag a' b' c')) := by
  have h0 : 0 < l.length := List.length_pos_iff.mpr hl
  obtain ⟨r, a', b', c', r0, r1, q⟩ := sp17 n j l.length a b c h (by omega) (by omega) e
  have hr : r.toNat < l.length := by omega
  have ix : ixO (.lst l) (.int r) = some l[r.toNat] := by
    simp [ixO, atI, ixN, r0, r1, hr]
  refine ⟨l[r.toNat], a', b', c', List.getElem_mem _, ?_⟩
  rw [call_eq (d := ⟨2, 2, b18⟩) rfl rfl, b18]
  rw [ss_ret (t := l[r.toNat]) (h' := h.set j (bag a' b' c')) (by simp only [evSs, evS, evB, evE, evEs, evI, List.map_cons, List.map_nil, List.replicate, List.cons_append, List.nil_append, List.getElem?_cons_zero, List.getElem?_cons_succ, List.set_cons_zero, List.set_cons_succ, R_ok, R_exc, lk_str, lk_int, lk_bl, lk_non, lk_tup, lk_lst, tr_bl, Option.map_some, ofO_s, mkF, if_pos, if_neg Bool.false_ne_true, Bool.not_true, Bool.not_false, Tg.put, Tg.puts, Option.bind_some, biO, lenO, lenI, q, ix])]
  exact leave_set0 (hu _ (List.getElem_mem _)) rfl
theorem sp18s (n j : Nat) (s : List Nat) (a b c : Int) (h : Hm) (hl : s ≠ []) (hz : s.length < 1000) (e : h[j]? = some (bag a b c)) :
    ∃ (x : Nat) (a' b' c' : Int), x ∈ s ∧ call Φ tf (n + 2) 18 [.ref j, .str s] h = .ok (.str [x]) (h.set j (bag a' b' c')) := by
  have h0 : 0 < s.length := List.length_pos_iff.mpr hl
  obtain ⟨r, a', b', c', r0, r1, q⟩ := sp17 n j s.length a b c h (by omega) (by omega) e
  have hr : r.toNat < s.length := by omega
  have ix : ixO (.str s) (.int r) = some (.str [s[r.toNat]]) := by
    simp [ixO, atI, ixN, r0, r1, hr]
  refine ⟨s[r.toNat], a', b', c', List.getElem_mem _, ?_⟩
  rw [call_eq (d := ⟨2, 2, b18⟩) rfl rfl, b18]
  rw [ss_ret (t := .str [s[r.toNat]]) (h' := h.set j (bag a' b' c')) (by simp only [evSs, evS, evB, evE, evEs, evI, List.map_cons, List.map_nil, List.replicate, List.cons_append, List.nil_append, List.getElem?_cons_zero, List.getElem?_cons_succ, List.set_cons_zero, List.set_cons_succ, R_ok, R_exc, lk_str, lk_int, lk_bl, lk_non, lk_tup, lk_lst, tr_bl, Option.map_some, ofO_s, mkF, if_pos, if_neg Bool.false_ne_true, Bool.not_true, Bool.not_false, Tg.put, Tg.puts, Option.bind_some, biO, lenO, lenI, q, ix])]
  exact leave_set0 rfl rfl
/-- _law_start: a new bag -/
theorem cell16 (ns : List Int) (k : Nat) (h : Hm) (Γ : Env) : ∃ x : Int, evE Γ (.ite (.cmp .lt (.v 1) (.bi false .len [.v 0])) (.ix (.v 0) (.v 1)) (.bin false .add (.bin false .mul (.c (.int 29)) (.v 1)) (.c (.int 11)))) [some (.lst (ns.map .int)), some (.int k), none, none, none] h = .ok (.int x) h := by
  by_cases hk : k < ns.length
  · have d1 : decide ((k : Int) < (ns.length : Int)) = true := decide_eq_true (by omega)
    have ix : ixO (.lst (ns.map .int)) (.int k) = some (.int ns[k]) := by
      have h0 : (0 : Int) ≤ k := by omega
      have h1 : (k : Int) < (ns.length : Int) := by omega
      simp [ixO, atI, ixN, h1, hk]
    exact ⟨ns[k], by simp only [evSs, evS, evB, evE, evEs, evI, List.map_cons, List.map_nil, List.replicate, List.cons_append, List.nil_append, List.getElem?_cons_zero, List.getElem?_cons_succ, List.set_cons_zero, List.set_cons_succ, R_ok, R_exc, lk_str, lk_int, lk_bl, lk_non, lk_tup, lk_lst, tr_bl, Option.map_some, ofO_s, mkF, if_pos, if_neg Bool.false_ne_true, Bool.not_true, Bool.not_false, Tg.put, Tg.puts, Option.bind_some, biO, lenO, lenI, cmO, List.length_map, d1, ix]⟩
  · have d1 : decide ((k : Int) < (ns.length : Int)) = false := decide_eq_false (by omega)
    exact ⟨29 * k + 11, by simp only [evSs, evS, evB, evE, evEs, evI, List.map_cons, List.map_nil, List.replicate, List.cons_append, List.nil_append, List.getElem?_cons_zero, List.getElem?_cons_succ, List.set_cons_zero, List.set_cons_succ, R_ok, R_exc, lk_str, lk_int, lk_bl, lk_non, lk_tup, lk_lst, tr_bl, Option.map_some, ofO_s, mkF, if_pos, if_neg Bool.false_ne_true, Bool.not_true, Bool.not_false, Tg.put, Tg.puts, Option.bind_some, biO, lenO, lenI, cmO, List.length_map, d1, ad, ml (mlL (i := 29) (j := k) (by decide) (by decide))]⟩
theorem pw {i j : Int} (h : powOk i j = true) : opO .pow (.int i) (.int j) = some (.int (i ^ j.toNat)) := by simp [opO, h]
theorem sb {i j : Int} : opO .sub (.int i) (.int j) = some (.int (i - j)) := rfl
theorem sp16 (n : Nat) (ns : List Int) (k : Nat) (h : Hm) : ∃ a b c : Int, call Φ tf (n + 1) 16 [.lst (ns.map .int), .int k] h = .ok (.ref h.length) (h ++ [bag a b c]) := by
  obtain ⟨x, hx⟩ := cell16 ns k h ⟨call Φ tf n, tf⟩
  obtain ⟨M, hM⟩ : ∃ M : Int, M = (10 ^ (58 : Int).toNat) ^ (12 : Int).toNat := ⟨_, rfl⟩
  have hM0 : 0 < M := by rw [hM]; decide +kernel
  have p1 : powOk 10 58 = true := by decide +kernel
  have p2 : powOk (10 ^ (58 : Int).toNat) 12 = true := by decide +kernel
  have p3 : powOk 10 18 = true := by decide +kernel
  obtain ⟨g, hg⟩ : ∃ g : Int, g = (x.natAbs : Int) % M := ⟨_, rfl⟩
  have z1 : (0 : Int) < 2147483497 := by decide
  have z2 : (0 : Int) < 2147483353 := by decide
  have g0 : 0 ≤ g % 2147483497 := Int.emod_nonneg _ (by decide)
  have g1 : g % 2147483497 < 2147483497 := Int.emod_lt_of_pos _ (by decide)
  have m1 : mulOk (g % 2147483497) 41381 = true := mlL (by omega) (by omega)
  have m2 : mulOk 4003 k = true := mlL (by decide) (by decide)
  obtain ⟨lt, hlt⟩ : ∃ lt : Bool, decide (x < 0) = lt := ⟨_, rfl⟩
  obtain ⟨w, hw⟩ : ∃ w : Int, w = g % 2147483497 * 41381 + 4003 * (k : Int) + 13 * (if lt then 1 else 0) + 17 := ⟨_, rfl⟩
  have m3 : mulOk 13 (if lt then 1 else 0) = true := mlL (by decide) (by decide)
  have bb : biO .int [.bl lt] = some (.int (if lt then 1 else 0)) := rfl
  have ab : biO .abs [.int x] = some (.int (x.natAbs : Int)) := rfl
  have mx : ∀ i j : Int, biO .max [.int i, .int j] = some (.int (if j > i then j else i)) := fun _ _ => rfl
  refine ⟨if g - 10 ^ (18 : Int).toNat > 0 then g - 10 ^ (18 : Int).toNat else 0, w % 2147483353, 0, ?_⟩
  rw [call_eq (d := ⟨2, 5, b16⟩) rfl rfl, b16]
  rw [ss_step (σ' := [some (.lst (ns.map .int)), some (.int k), some (.int x), none, none]) (h' := h) (by rw [evS]; erw [hx]; rfl)]
  rw [ss_step (σ' := [some (.lst (ns.map .int)), some (.int k), some (.int x), some (.int g), none]) (h' := h) (by simp only [evSs, evS, evB, evE, evEs, evI, List.map_cons, List.map_nil, List.replicate, List.cons_append, List.nil_append, List.getElem?_cons_zero, List.getElem?_cons_succ, List.set_cons_zero, List.set_cons_succ, R_ok, R_exc, lk_str, lk_int, lk_bl, lk_non, lk_tup, lk_lst, tr_bl, Option.map_some, ofO_s, mkF, if_pos, if_neg Bool.false_ne_true, Bool.not_true, Bool.not_false, Tg.put, Tg.puts, Option.bind_some, ab, bint, pw p1, pw p2, ← hM, md hM0, ← hg])]
  rw [ss_step (σ' := [some (.lst (ns.map .int)), some (.int k), some (.int x), some (.int g), some (.int w)]) (h' := h) (by simp only [evSs, evS, evB, evE, evEs, evI, List.map_cons, List.map_nil, List.replicate, List.cons_append, List.nil_append, List.getElem?_cons_zero, List.getElem?_cons_succ, List.set_cons_zero, List.set_cons_succ, R_ok, R_exc, lk_str, lk_int, lk_bl, lk_non, lk_tup, lk_lst, tr_bl, Option.map_some, ofO_s, mkF, if_pos, if_neg Bool.false_ne_true, Bool.not_true, Bool.not_false, Tg.put, Tg.puts, Option.bind_some, bint, md z1, ml m1, ml m2, cmO, hlt, bb, ml m3, ad, ← hw])]
  rw [ss_ret (t := .ref h.length) (h' := h ++ [bag (if g - 10 ^ (18 : Int).toNat > 0 then g - 10 ^ (18 : Int).toNat else 0) (w % 2147483353) 0]) (by simp only [evSs, evS, evB, evE, evEs, evI, List.map_cons, List.map_nil, List.replicate, List.cons_append, List.nil_append, List.getElem?_cons_zero, List.getElem?_cons_succ, List.set_cons_zero, List.set_cons_succ, R_ok, R_exc, lk_str, lk_int, lk_bl, lk_non, lk_tup, lk_lst, tr_bl, Option.map_some, ofO_s, mkF, if_pos, if_neg Bool.false_ne_true, Bool.not_true, Bool.not_false, Tg.put, Tg.puts, Option.bind_some, bint, pw p3, sb, mx, md z2, mk]; rfl)]
  show leave h (.ref h.length) (h ++ [bag _ _ _]) = _
  have e : (T.ref h.length).und h.length = false := by simp [T.und]
  unfold leave
  simp only [e, Bool.false_and, if_neg Bool.false_ne_true, List.getElem?_append_right (Nat.le_refl _), Nat.sub_self, List.getElem?_cons_zero, bag, und_bag, preB_app, Bool.and_self, if_pos, List.take_left']
end K60
end
/-! part K60e -/
section
set_option autoImplicit false
set_option linter.all false
set_option maxRecDepth 10000
/-! K60e: the law's own matcher. -/
namespace K60
open Tw
/-- an item: its letters, whether any number of them -/
abbrev Item := List Nat × Bool
def itT (p : Item) : T := .tup [.str p.1, .str (if p.2 then ANY else ONE)]
def itsT (l : List Item) : T := .tup (l.map itT)
def fit : List Item → List Nat → Bool
  | [], t => t.isEmpty
  | (_, false) :: _, [] => false
  | (ls, false) :: is, c :: t => ls.contains c && fit is t
  | (_, true) :: is, [] => fit is []
  | (ls, true) :: is, c :: t => fit is (c :: t) || (ls.contains c && fit ((ls, true) :: is) t)
termination_by is t => is.length + t.length
theorem pls_its : ∀ l : List Item, T.pls 59 (l.map itT) = true
  | [] => rfl
  | p :: l => by
    rw [List.map_cons, T.pls, pls_its l]
    rfl
theorem oneK : (ONE == [111, 110, 101]) = true := rfl
theorem anyK : (ANY == [111, 110, 101]) = false := rfl
theorem ixT (ls : List Nat) (k : Bool) (l : List T) : ixO (.tup (itT (ls, k) :: l)) (.int 0) = some (.tup [.str ls, .str (if k then ANY else ONE)]) := by simp [ixO, atI, ixN, itT]
theorem asgS {C : Env} {g : Tg} {e : Ex} {σ σ' : Sl} {h h' : Hm} (t : T) (x : evE C e σ h = .ok t h') (y : g.put t σ = some σ') : evS C (.asg g e) σ h = .ok (.next σ') h' := by
  simp only [evS, x, R_ok, y, Option.map_some, ofO_s]
theorem eq_its (l : List Item) : eqO (itsT l) (.tup []) = some l.isEmpty := by
  have e : T.pl deepest (itsT l) = true := pls_its l
  unfold eqO
  rw [e]
  cases l <;> rfl
theorem cut1T (l : List T) : cutO (some 1) none (.tup l) = some (.tup (l.drop 1)) := by simp [cutO, cut1]
theorem cut1S (l : List Nat) : cutO (some 1) none (.str l) = some (.str (l.drop 1)) := by simp [cutO, cut1]
theorem ixs (c : Nat) (t : List Nat) : ixO (.str (c :: t)) (.int 0) = some (.str [c]) := by simp [ixO, atI, ixN]
theorem inS (c : Nat) (s : List Nat) : inO (.str [c]) (.str s) = some (s.contains c) := rfl
theorem sp22 : ∀ (N : Nat) (is : List Item) (t : List Nat) (h : Hm), is.length + t.length < N → call Φ tf N 22 [itsT is, .str t] h = .ok (.bl (fit is t)) h
  | 0, _, _, _, hl => absurd hl (Nat.not_lt_zero _)
  | N + 1, [], t, h, _ => by
    rw [call_eq (d := ⟨2, 5, b22⟩) rfl rfl, b22]
    have e : eqO (.tup []) (.tup []) = some true := eq_its []
    rw [show itsT [] = .tup [] from rfl]
    have e2 : fit [] t = (t == []) := by rw [fit]; cases t <;> rfl
    rw [ss_ret (t := .bl (fit [] t)) (h' := h) (by simp only [evSs, evS, evB, evE, evEs, evI, List.map_cons, List.map_nil, List.replicate, List.cons_append, List.nil_append, List.getElem?_cons_zero, List.getElem?_cons_succ, List.set_cons_zero, List.set_cons_succ, R_ok, R_exc, lk_str, lk_int, lk_bl, lk_non, lk_tup, lk_lst, tr_bl, Option.map_some, ofO_s, mkF, if_pos, if_neg Bool.false_ne_true, Bool.not_true, Bool.not_false, Tg.put, Tg.puts, Option.bind_some, e, cmO, eqs, List.isEmpty_nil, e2])]
    exact cE0 h _ rfl
  | N + 1, (ls, k) :: is, t, h, hl => by
    have e : eqO (.tup (itT (ls, k) :: is.map itT)) (.tup []) = some false := eq_its ((ls, k) :: is)
    have ih := fun is' t' h' hh => sp22 N is' t' h' hh
    rw [call_eq (d := ⟨2, 5, b22⟩) rfl rfl, b22]
    have eT : itsT ((ls, k) :: is) = .tup (itT (ls, k) :: is.map itT) := rfl
    have dT : (itT (ls, k) :: is.map itT).drop 1 = is.map itT := rfl
    rw [eT]
    rw [ss_step (σ' := [some (.tup (itT (ls, k) :: is.map itT)), some (.str t), none, none, none]) (h' := h) (by simp only [evSs, evS, evB, evE, evEs, evI, List.map_cons, List.map_nil, List.replicate, List.cons_append, List.nil_append, List.getElem?_cons_zero, List.getElem?_cons_succ, List.set_cons_zero, List.set_cons_succ, R_ok, R_exc, lk_str, lk_int, lk_bl, lk_non, lk_tup, lk_lst, tr_bl, Option.map_some, ofO_s, mkF, if_pos, if_neg Bool.false_ne_true, Bool.not_true, Bool.not_false, Tg.put, Tg.puts, Option.bind_some, e, cmO])]
    have pu : Tg.put (.u [.v 3, .v 4]) (.tup [.str ls, .str (if k then ANY else ONE)]) [some (.tup (itT (ls, k) :: is.map itT)), some (.str t), none, none, none] = some [some (.tup (itT (ls, k) :: is.map itT)), some (.str t), none, some (.str ls), some (.str (if k then ANY else ONE))] := rfl
    have a1 : evS ⟨call Φ tf N, tf⟩ (.asg (.u [.v 3, .v 4]) (.ix (.v 0) (.c (.int 0)))) [some (.tup (itT (ls, k) :: is.map itT)), some (.str t), none, none, none] h = .ok (.next [some (.tup (itT (ls, k) :: is.map itT)), some (.str t), none, some (.str ls), some (.str (if k then ANY else ONE))]) h := asgS _ (by simp only [evE, List.getElem?_cons_zero, ofO_s, Option.bind_some, R_ok, evEs, lk_tup, ixT, evI]) pu
    rw [ss_step a1]
    cases t with
    | nil =>
      rw [ss_step (σ' := [some (.tup (itT (ls, k) :: is.map itT)), some (.str []), some (.bl false), some (.str ls), some (.str (if k then ANY else ONE))]) (h' := h) (by simp only [evSs, evS, evB, evE, evEs, evI, List.map_cons, List.map_nil, List.replicate, List.cons_append, List.nil_append, List.getElem?_cons_zero, List.getElem?_cons_succ, List.set_cons_zero, List.set_cons_succ, R_ok, R_exc, lk_str, lk_int, lk_bl, lk_non, lk_tup, lk_lst, tr_bl, Option.map_some, ofO_s, mkF, if_pos, if_neg Bool.false_ne_true, Bool.not_true, Bool.not_false, Tg.put, Tg.puts, Option.bind_some, cmO, eqs, show (([] : List Nat) == []) = true from rfl])]
      cases k with
      | false =>
        rw [show fit ((ls, false) :: is) [] = false by rw [fit]]
        rw [ss_ret (t := .bl false) (h' := h) (by simp only [evSs, evS, evB, evE, evEs, evI, List.map_cons, List.map_nil, List.replicate, List.cons_append, List.nil_append, List.getElem?_cons_zero, List.getElem?_cons_succ, List.set_cons_zero, List.set_cons_succ, R_ok, R_exc, lk_str, lk_int, lk_bl, lk_non, lk_tup, lk_lst, tr_bl, Option.map_some, ofO_s, mkF, if_pos, if_neg Bool.false_ne_true, Bool.not_true, Bool.not_false, Tg.put, Tg.puts, Option.bind_some, cmO, eqs, oneK])]
        exact cE0 h _ rfl
      | true =>
        have r := ih is [] h (by simp at hl ⊢; omega)
        rw [show fit ((ls, true) :: is) [] = fit is [] by rw [fit]]
        rw [ss_step (σ' := [some (.tup (itT (ls, true) :: is.map itT)), some (.str []), some (.bl false), some (.str ls), some (.str (if true then ANY else ONE))]) (h' := h) (by simp only [evSs, evS, evB, evE, evEs, evI, List.map_cons, List.map_nil, List.replicate, List.cons_append, List.nil_append, List.getElem?_cons_zero, List.getElem?_cons_succ, List.set_cons_zero, List.set_cons_succ, R_ok, R_exc, lk_str, lk_int, lk_bl, lk_non, lk_tup, lk_lst, tr_bl, Option.map_some, ofO_s, mkF, if_pos, if_neg Bool.false_ne_true, Bool.not_true, Bool.not_false, Tg.put, Tg.puts, Option.bind_some, cmO, eqs, anyK])]
        have r' : call Φ tf N 22 [.tup (is.map itT), .str []] h = .ok (.bl (fit is [])) h := r
        cases q : fit is [] with
        | true =>
          rw [q] at r'
          rw [ss_ret (t := .bl true) (h' := h) (by simp only [evSs, evS, evB, evE, evEs, evI, List.map_cons, List.map_nil, List.replicate, List.cons_append, List.nil_append, List.getElem?_cons_zero, List.getElem?_cons_succ, List.set_cons_zero, List.set_cons_succ, R_ok, R_exc, lk_str, lk_int, lk_bl, lk_non, lk_tup, lk_lst, tr_bl, Option.map_some, ofO_s, mkF, if_pos, if_neg Bool.false_ne_true, Bool.not_true, Bool.not_false, Tg.put, Tg.puts, Option.bind_some, optI, cut1T, dT, r'])]
          exact cE0 h _ rfl
        | false =>
          rw [q] at r'
          rw [ss_ret (t := .bl false) (h' := h) (by simp only [evSs, evS, evB, evE, evEs, evI, List.map_cons, List.map_nil, List.replicate, List.cons_append, List.nil_append, List.getElem?_cons_zero, List.getElem?_cons_succ, List.set_cons_zero, List.set_cons_succ, R_ok, R_exc, lk_str, lk_int, lk_bl, lk_non, lk_tup, lk_lst, tr_bl, Option.map_some, ofO_s, mkF, if_pos, if_neg Bool.false_ne_true, Bool.not_true, Bool.not_false, Tg.put, Tg.puts, Option.bind_some, optI, cut1T, dT, r'])]
          exact cE0 h _ rfl
    | cons c t =>
      rw [ss_step (σ' := [some (.tup (itT (ls, k) :: is.map itT)), some (.str (c :: t)), some (.bl (ls.contains c)), some (.str ls), some (.str (if k then ANY else ONE))]) (h' := h) (by simp only [evSs, evS, evB, evE, evEs, evI, List.map_cons, List.map_nil, List.replicate, List.cons_append, List.nil_append, List.getElem?_cons_zero, List.getElem?_cons_succ, List.set_cons_zero, List.set_cons_succ, R_ok, R_exc, lk_str, lk_int, lk_bl, lk_non, lk_tup, lk_lst, tr_bl, Option.map_some, ofO_s, mkF, if_pos, if_neg Bool.false_ne_true, Bool.not_true, Bool.not_false, Tg.put, Tg.puts, Option.bind_some, cmO, eqs, ixs, inS, show ((c :: t : List Nat) == []) = false from rfl])]
      cases k with
      | false =>
        have r : call Φ tf N 22 [.tup (is.map itT), .str t] h = .ok (.bl (fit is t)) h := ih is t h (by simp at hl ⊢; omega)
        rw [show fit ((ls, false) :: is) (c :: t) = (ls.contains c && fit is t) by rw [fit]]
        have go : evS ⟨call Φ tf N, tf⟩ (.if_ (.cmp .eq (.v 4) (.c (.str [111, 110, 101]))) [.ret (.and (.v 2) (.call 22 [.sl false (.v 0) [.c (.int 1)] [], .sl false (.v 1) [.c (.int 1)] []]))] []) [some (.tup (itT (ls, false) :: is.map itT)), some (.str (c :: t)), some (.bl (ls.contains c)), some (.str ls), some (.str (if false then ANY else ONE))] h = .ok (.ret (.bl (ls.contains c && fit is t))) h := by
          cases q : ls.contains c with
          | false => simp only [evSs, evS, evB, evE, evEs, evI, List.map_cons, List.map_nil, List.replicate, List.cons_append, List.nil_append, List.getElem?_cons_zero, List.getElem?_cons_succ, List.set_cons_zero, List.set_cons_succ, R_ok, R_exc, lk_str, lk_int, lk_bl, lk_non, lk_tup, lk_lst, tr_bl, Option.map_some, ofO_s, mkF, if_pos, if_neg Bool.false_ne_true, Bool.not_true, Bool.not_false, Tg.put, Tg.puts, Option.bind_some, cmO, eqs, oneK, Bool.false_and]
          | true => simp only [evSs, evS, evB, evE, evEs, evI, List.map_cons, List.map_nil, List.replicate, List.cons_append, List.nil_append, List.getElem?_cons_zero, List.getElem?_cons_succ, List.set_cons_zero, List.set_cons_succ, R_ok, R_exc, lk_str, lk_int, lk_bl, lk_non, lk_tup, lk_lst, tr_bl, Option.map_some, ofO_s, mkF, if_pos, if_neg Bool.false_ne_true, Bool.not_true, Bool.not_false, Tg.put, Tg.puts, Option.bind_some, cmO, eqs, oneK, Bool.true_and, optI, cut1T, cut1S, dT, List.drop_succ_cons, List.drop_zero, r]
        rw [ss_ret go]
        exact cE0 h _ rfl
      | true =>
        have r : call Φ tf N 22 [.tup (is.map itT), .str (c :: t)] h = .ok (.bl (fit is (c :: t))) h := ih is (c :: t) h (by simp at hl ⊢; omega)
        have r2 : call Φ tf N 22 [.tup (itT (ls, true) :: is.map itT), .str t] h = .ok (.bl (fit ((ls, true) :: is) t)) h := ih ((ls, true) :: is) t h (by simp at hl ⊢; omega)
        rw [show fit ((ls, true) :: is) (c :: t) = (fit is (c :: t) || (ls.contains c && fit ((ls, true) :: is) t)) by rw [fit]]
        rw [ss_step (σ' := [some (.tup (itT (ls, true) :: is.map itT)), some (.str (c :: t)), some (.bl (ls.contains c)), some (.str ls), some (.str (if true then ANY else ONE))]) (h' := h) (by simp only [evSs, evS, evB, evE, evEs, evI, List.map_cons, List.map_nil, List.replicate, List.cons_append, List.nil_append, List.getElem?_cons_zero, List.getElem?_cons_succ, List.set_cons_zero, List.set_cons_succ, R_ok, R_exc, lk_str, lk_int, lk_bl, lk_non, lk_tup, lk_lst, tr_bl, Option.map_some, ofO_s, mkF, if_pos, if_neg Bool.false_ne_true, Bool.not_true, Bool.not_false, Tg.put, Tg.puts, Option.bind_some, cmO, eqs, anyK])]
        have go : evS ⟨call Φ tf N, tf⟩ (.ret (.or (.call 22 [.sl false (.v 0) [.c (.int 1)] [], .v 1]) (.and (.v 2) (.call 22 [.v 0, .sl false (.v 1) [.c (.int 1)] []])))) [some (.tup (itT (ls, true) :: is.map itT)), some (.str (c :: t)), some (.bl (ls.contains c)), some (.str ls), some (.str (if true then ANY else ONE))] h = .ok (.ret (.bl (fit is (c :: t) || (ls.contains c && fit ((ls, true) :: is) t)))) h := by
          cases q1 : fit is (c :: t) with
          | true =>
            rw [q1] at r
            simp only [evSs, evS, evB, evE, evEs, evI, List.map_cons, List.map_nil, List.replicate, List.cons_append, List.nil_append, List.getElem?_cons_zero, List.getElem?_cons_succ, List.set_cons_zero, List.set_cons_succ, R_ok, R_exc, lk_str, lk_int, lk_bl, lk_non, lk_tup, lk_lst, tr_bl, Option.map_some, ofO_s, mkF, if_pos, if_neg Bool.false_ne_true, Bool.not_true, Bool.not_false, Tg.put, Tg.puts, Option.bind_some, optI, cut1T, dT, r, Bool.true_or]
          | false =>
            rw [q1] at r
            cases q : ls.contains c with
            | false => simp only [evSs, evS, evB, evE, evEs, evI, List.map_cons, List.map_nil, List.replicate, List.cons_append, List.nil_append, List.getElem?_cons_zero, List.getElem?_cons_succ, List.set_cons_zero, List.set_cons_succ, R_ok, R_exc, lk_str, lk_int, lk_bl, lk_non, lk_tup, lk_lst, tr_bl, Option.map_some, ofO_s, mkF, if_pos, if_neg Bool.false_ne_true, Bool.not_true, Bool.not_false, Tg.put, Tg.puts, Option.bind_some, optI, cut1T, dT, r, Bool.false_or, Bool.false_and]
            | true => simp only [evSs, evS, evB, evE, evEs, evI, List.map_cons, List.map_nil, List.replicate, List.cons_append, List.nil_append, List.getElem?_cons_zero, List.getElem?_cons_succ, List.set_cons_zero, List.set_cons_succ, R_ok, R_exc, lk_str, lk_int, lk_bl, lk_non, lk_tup, lk_lst, tr_bl, Option.map_some, ofO_s, mkF, if_pos, if_neg Bool.false_ne_true, Bool.not_true, Bool.not_false, Tg.put, Tg.puts, Option.bind_some, optI, cut1T, cut1S, dT, List.drop_succ_cons, List.drop_zero, r, r2, Bool.false_or, Bool.true_and]
        rw [ss_ret go]
        exact cE0 h _ rfl
end K60
end
/-! part K60f -/
section
set_option autoImplicit false
set_option linter.all false
set_option maxRecDepth 10000
/-! K60f: what fit says, in plain lists: whole texts, fronts, and both read backwards. -/
namespace K60
/-- fit; not whole: some front of the text -/
def fitw (w : Bool) : List Item → List Nat → Bool
  | [], t => !w || t.isEmpty
  | (_, false) :: _, [] => false
  | (ls, false) :: is, c :: t => ls.contains c && fitw w is t
  | (_, true) :: is, [] => fitw w is []
  | (ls, true) :: is, c :: t => fitw w is (c :: t) || (ls.contains c && fitw w ((ls, true) :: is) t)
termination_by is t => is.length + t.length
theorem fitw_true : ∀ (N : Nat) (is : List Item) (t : List Nat), is.length + t.length < N → fitw true is t = fit is t
  | 0, _, _, h => absurd h (Nat.not_lt_zero _)
  | N + 1, [], t, _ => by rw [fitw, fit]; rfl
  | N + 1, (_, false) :: _, [], _ => by rw [fitw, fit]
  | N + 1, (ls, false) :: is, c :: t, h => by rw [fitw, fit, fitw_true N is t (by simp at h ⊢; omega)]
  | N + 1, (_, true) :: is, [], h => by rw [fitw, fit, fitw_true N is [] (by simp at h ⊢; omega)]
  | N + 1, (ls, true) :: is, c :: t, h => by rw [fitw, fit, fitw_true N is (c :: t) (by simp at h ⊢; omega), fitw_true N ((ls, true) :: is) t (by simp at h ⊢; omega)]
/-- a stretch that an item takes -/
def okS (x : Item) (s : List Nat) : Prop := (∀ c ∈ s, c ∈ x.1) ∧ (x.2 = false → s.length = 1)
inductive M : List Item → List Nat → Prop
  | nil : M [] []
  | cons {x is s t} : okS x s → M is t → M (x :: is) (s ++ t)
theorem M.app {A B : List Item} {s t : List Nat} (a : M A s) (b : M B t) : M (A ++ B) (s ++ t) := by
  induction a with
  | nil => exact b
  | cons o _ ih => rw [List.cons_append, List.append_assoc]; exact .cons o ih
theorem M.rev {A : List Item} {s : List Nat} (a : M A s) : M A.reverse s.reverse := by
  induction a with
  | nil => exact .nil
  | @cons x is s t o _ ih =>
    rw [List.reverse_cons, List.reverse_append]
    refine ih.app ?_
    have e : s.reverse = s.reverse ++ [] := (List.append_nil _).symm
    rw [e]
    refine .cons ⟨fun c hc => o.1 c (List.mem_reverse.mp hc), fun hx => ?_⟩ .nil
    rw [List.length_reverse]; exact o.2 hx
theorem fitw_app_nil (ls : List Nat) (is : List Item) (w : Bool) (t : List Nat) (h : fitw w is t = true) : fitw w ((ls, true) :: is) t = true := by
  cases t with
  | nil => rw [fitw]; exact h
  | cons c t => rw [fitw, h]; rfl
theorem fitw_cons (w : Bool) (x : Item) (is : List Item) (s t : List Nat) (o : okS x s) (h : fitw w is t = true) : fitw w (x :: is) (s ++ t) = true := by
  obtain ⟨ls, k⟩ := x
  obtain ⟨o1, o2⟩ := o
  cases k with
  | false =>
    have l := o2 rfl
    match s, l, o1 with
    | [c], _, o1 =>
      rw [List.cons_append, List.nil_append, fitw, h, Bool.and_true, List.contains_iff_mem]
      exact o1 c (List.mem_singleton.mpr rfl)
  | true =>
    induction s with
    | nil => exact fitw_app_nil ls is w t h
    | cons c s ih =>
      have r := ih (fun d hd => o1 d (List.mem_cons_of_mem _ hd)) (fun e => Bool.noConfusion e)
      have m : ls.contains c = true := List.contains_iff_mem.mpr (o1 c List.mem_cons_self)
      rw [List.cons_append, fitw, r, m, Bool.and_true, Bool.or_true]
/-- a text that the items take, and, where it is not whole, anything behind it -/
theorem fitw_M (w : Bool) : ∀ (N : Nat) (is : List Item) (t : List Nat), is.length + t.length < N → (fitw w is t = true → ∃ s u, t = s ++ u ∧ M is s ∧ (w = true → u = []))
  | 0, _, _, h => absurd h (Nat.not_lt_zero _)
  | N + 1, [], t, _ => fun f => by
    rw [fitw] at f
    refine ⟨[], t, rfl, .nil, fun hw => ?_⟩
    rw [hw] at f
    exact List.isEmpty_iff.mp (by simpa using f)
  | N + 1, (_, false) :: _, [], _ => fun f => by rw [fitw] at f; cases f
  | N + 1, (ls, false) :: is, c :: t, h => fun f => by
    rw [fitw, Bool.and_eq_true] at f
    obtain ⟨s, u, e, m, hu⟩ := fitw_M w N is t (by simp at h ⊢; omega) f.2
    refine ⟨[c] ++ s, u, by rw [e]; rfl, .cons ⟨fun d hd => ?_, fun _ => rfl⟩ m, hu⟩
    rw [List.mem_singleton.mp hd]
    exact List.contains_iff_mem.mp f.1
  | N + 1, (ls, true) :: is, [], h => fun f => by
    rw [fitw] at f
    obtain ⟨s, u, e, m, hu⟩ := fitw_M w N is [] (by simp at h ⊢; omega) f
    exact ⟨[] ++ s, u, e, .cons ⟨fun d hd => absurd hd (List.not_mem_nil), fun x => Bool.noConfusion x⟩ m, hu⟩
  | N + 1, (ls, true) :: is, c :: t, h => fun f => by
    rw [fitw, Bool.or_eq_true, Bool.and_eq_true] at f
    rcases f with f | ⟨f, g⟩
    · obtain ⟨s, u, e, m, hu⟩ := fitw_M w N is (c :: t) (by simp at h ⊢; omega) f
      exact ⟨[] ++ s, u, e, .cons ⟨fun d hd => absurd hd (List.not_mem_nil), fun x => Bool.noConfusion x⟩ m, hu⟩
    · obtain ⟨s, u, e, m, hu⟩ := fitw_M w N ((ls, true) :: is) t (by simp at h ⊢; omega) g
      cases m with
      | @cons _ _ s1 s2 o m =>
        refine ⟨(c :: s1) ++ s2, u, by rw [e]; rfl, .cons ⟨fun d hd => ?_, fun x => Bool.noConfusion x⟩ m, hu⟩
        rcases List.mem_cons.mp hd with rfl | hd
        · exact List.contains_iff_mem.mp f
        · exact o.1 d hd
theorem M_fitw (w : Bool) {is : List Item} {s : List Nat} (m : M is s) (u : List Nat) (hu : w = true → u = []) : fitw w is (s ++ u) = true := by
  induction m with
  | nil =>
    rw [fitw]
    cases w with
    | false => rfl
    | true => rw [hu rfl]; rfl
  | cons o _ ih => rw [List.append_assoc]; exact fitw_cons w _ _ _ _ o ih
theorem fit_iff (is : List Item) (t : List Nat) : fit is t = true ↔ M is t := by
  rw [← fitw_true _ is t (Nat.lt_succ_self _)]
  constructor
  · intro f
    obtain ⟨s, u, e, m, hu⟩ := fitw_M true _ is t (Nat.lt_succ_self _) f
    rw [hu rfl, List.append_nil] at e
    exact e ▸ m
  · intro m
    have := M_fitw true m [] (fun _ => rfl)
    rwa [List.append_nil] at this
theorem fitw_iff (is : List Item) (t : List Nat) : fitw false is t = true ↔ ∃ n, n < t.length + 1 ∧ fit is (t.take n) = true := by
  constructor
  · intro f
    obtain ⟨s, u, e, m, _⟩ := fitw_M false _ is t (Nat.lt_succ_self _) f
    refine ⟨s.length, by rw [e, List.length_append]; omega, ?_⟩
    rw [e, List.take_left, fit_iff]
    exact m
  · rintro ⟨n, _, f⟩
    have := M_fitw false ((fit_iff _ _).mp f) (t.drop n) (fun x => absurd x (by decide))
    rwa [List.take_append_drop] at this
theorem fit_rev (is : List Item) (t : List Nat) : fit is.reverse t.reverse = fit is t := by
  rw [Bool.eq_iff_iff, fit_iff, fit_iff]
  constructor
  · intro m
    have := m.rev
    rwa [List.reverse_reverse, List.reverse_reverse] at this
  · exact M.rev
theorem fitw_rev_iff (is : List Item) (t : List Nat) : fitw false is.reverse t.reverse = true ↔ ∃ n, n < t.length + 1 ∧ fit is (t.drop n) = true := by
  rw [fitw_iff]
  constructor
  · rintro ⟨n, hn, f⟩
    refine ⟨t.length - n, by omega, ?_⟩
    rw [← fit_rev, List.reverse_drop]
    rw [List.length_reverse] at hn
    rw [show t.length - (t.length - n) = n by omega]
    exact f
  · rintro ⟨n, hn, f⟩
    refine ⟨t.length - n, by rw [List.length_reverse]; omega, ?_⟩
    rw [← List.reverse_drop, fit_rev]
    exact f
end K60
end
/-! part K60g -/
section
set_option autoImplicit false
set_option linter.all false
set_option maxRecDepth 10000
/-! K60g: the program's sights and traces: the first ones. -/
namespace K60
open Tw
def iT (k : Nat) : T := .int k
def numsT (l : List Nat) : T := .tup (l.map iT)
def anyI (x : Item) : Bool := x.2
theorem lkN (h : Hm) (l : List T) : look (h ++ [some (.lst l)]) (.ref h.length) = .lst l := by
  simp only [look, List.getElem?_append_right (Nat.le_refl _), Nat.sub_self, List.getElem?_cons_zero]
theorem apN (h : Hm) (l : List T) (x : T) (e : l.length < lim) : meR .append (.ref h.length) [x] (h ++ [some (.lst l)]) = .ok .non (h ++ [some (.lst (l ++ [x]))]) := by
  simp only [meR, List.getElem?_append_right (Nat.le_refl _), Nat.sub_self, List.getElem?_cons_zero, e, if_pos]
  rw [List.set_append_right _ _ (Nat.le_refl _), Nat.sub_self]
  rfl
theorem ixL (l : List Nat) (k : Nat) : ixO (.lst ((l ++ [k]).map iT)) (.int (-1)) = some (.int k) := by
  have h1 : ¬ (0 : Int) ≤ -1 := by decide
  have h2 : -(((l.map iT ++ [iT k]).length : Nat) : Int) ≤ -1 := by rw [List.length_append]; simp; omega
  have h3 : (-1 + (((l.map iT ++ [iT k]).length : Nat) : Int)).toNat = (l.map iT).length := by rw [List.length_append]; simp; omega
  rw [List.map_append]
  simp only [ixO, atI, ixN, if_neg h1, List.map_cons, List.map_nil, if_pos h2, Option.bind_some, h3, List.getElem?_append_right (Nat.le_refl _), Nat.sub_self, List.getElem?_cons_zero]
  rfl
theorem ixI (L : List Item) (k : Nat) (hk : k < L.length) : ixO (itsT L) (.int k) = some (itT L[k]) := by
  have h0 : (0 : Int) ≤ k := by omega
  have h1 : (k : Int) < (L.length : Int) := by omega
  simp [itsT, ixO, atI, ixN, h1, hk]
theorem lenIt (L : List Item) : biO .len [itsT L] = some (.int L.length) := by simp [biO, lenO, itsT, lenI]
theorem ixK (x : Item) : ixO (itT x) (.int 1) = some (.str (if anyI x then ANY else ONE)) := by
  obtain ⟨ls, k⟩ := x
  exact ix1 _ _ []
theorem ifK (b : Bool) : ((if b then ANY else ONE) == [97, 110, 121]) = b := by cases b <;> rfl
theorem opSub (i j : Int) : opO .sub (.int i) (.int j) = some (.int (i - j)) := rfl
theorem opAdd (i j : Int) : opO .add (.int i) (.int j) = some (.int (i + j)) := rfl
theorem lk_its (h : Hm) (L : List Item) : look h (itsT L) = itsT L := rfl
theorem lk_it (h : Hm) (x : Item) : look h (itT x) = itT x := rfl
def C6 : Ex := .and (.cmp .gt (.ix (.v 2) (.neg (.c (.int 1)))) (.c (.int 0))) (.cmp .eq (.ix (.ix (.v 1) (.bin false .sub (.ix (.v 2) (.neg (.c (.int 1)))) (.c (.int 1)))) (.c (.int 1))) (.c (.str [97, 110, 121])))
def B6 : List St := [.ex (.me .append (.v 2) [.bin false .sub (.ix (.v 2) (.neg (.c (.int 1)))) (.c (.int 1))])]
theorem drop_all (L : List Item) (k : Nat) (hk : k < L.length) : (L.drop k).all anyI = (anyI L[k] && (L.drop (k + 1)).all anyI) := by
  rw [List.drop_eq_getElem_cons hk, List.all_cons]
theorem lp6 (Γ : Env) (L : List Item) (P : T) (h : Hm) : ∀ (k : Nat) (pre : List Nat) (f : Nat), k ≤ L.length → (L.drop k).all anyI = true → pre.length + k < 100 → k < f →
    ∃ ms : List Nat, whlLoop (fun σ h => evB Γ C6 σ h) (fun σ h => evSs Γ B6 σ h) f [some P, some (itsT L), some (.ref h.length)] (h ++ [some (.lst ((pre ++ [k]).map iT))]) = .ok (.next [some P, some (itsT L), some (.ref h.length)]) (h ++ [some (.lst ((pre ++ ms).map iT))]) ∧ ∀ j, j ∈ ms ↔ (j ≤ k ∧ (L.drop j).all anyI = true)
  | _, _, 0, _, _, _, hf => absurd hf (Nat.not_lt_zero _)
  | 0, pre, f + 1, hk, ha, hp, hf => by
    refine ⟨[0], ?_, fun j => ?_⟩
    · have d : decide ((0 : Int) < ((0 : Nat) : Int)) = false := rfl
      have t1 : evB Γ C6 [some P, some (itsT L), some (.ref h.length)] (h ++ [some (.lst ((pre ++ [0]).map iT))]) = .ok false (h ++ [some (.lst ((pre ++ [0]).map iT))]) := by
        simp only [C6, evB, evE, List.getElem?_cons_zero, List.getElem?_cons_succ, R_ok, lkN, ixL, ofO_s, lk_int, cmO, d, if_neg Bool.false_ne_true]
      simp only [whlLoop, t1, R_ok, if_neg Bool.false_ne_true]
    · rw [List.mem_singleton]
      constructor
      · rintro rfl; exact ⟨Nat.le_refl _, ha⟩
      · rintro ⟨a, _⟩; omega
  | k + 1, pre, f + 1, hk, ha, hp, hf => by
    have hk2 : k < L.length := by omega
    have d : decide ((0 : Int) < ((k + 1 : Nat) : Int)) = true := decide_eq_true (by omega)
    have e1 : (((k + 1 : Nat) : Int) - 1) = (k : Int) := by omega
    have t1 : evB Γ C6 [some P, some (itsT L), some (.ref h.length)] (h ++ [some (.lst ((pre ++ [k + 1]).map iT))]) = .ok (anyI L[k]) (h ++ [some (.lst ((pre ++ [k + 1]).map iT))]) := by
      simp only [C6, evB, evE, List.getElem?_cons_zero, List.getElem?_cons_succ, R_ok, lkN, ixL, ofO_s, lk_int, cmO, d, if_pos, mkF, opSub, e1, lk_its, ixI L k hk2, lk_it, ixK, lk_str, eqs, ifK]
    have dk : (L.drop k).all anyI = anyI L[k] := by rw [drop_all L k hk2, ha, Bool.and_true]
    cases q : anyI L[k] with
    | false =>
      rw [q] at t1 dk
      refine ⟨[k + 1], ?_, fun j => ?_⟩
      · simp only [whlLoop, t1, R_ok, if_neg Bool.false_ne_true]
      · rw [List.mem_singleton]
        constructor
        · rintro rfl; exact ⟨Nat.le_refl _, ha⟩
        · rintro ⟨a, b⟩
          rcases Nat.lt_or_ge j (k + 1) with g | g
          · have : L[k] ∈ L.drop j := List.mem_drop_iff_getElem.mpr ⟨k - j, by omega, by congr 1; omega⟩
            have := List.all_eq_true.mp b _ this
            rw [q] at this; cases this
          · omega
    | true =>
      rw [q] at t1 dk
      obtain ⟨ms, r, hm⟩ := lp6 Γ L P h k (pre ++ [k + 1]) f (by omega) dk (by rw [List.length_append]; simp; omega) (by omega)
      refine ⟨(k + 1) :: ms, ?_, fun j => ?_⟩
      · have a1 : evSs Γ B6 [some P, some (itsT L), some (.ref h.length)] (h ++ [some (.lst ((pre ++ [k + 1]).map iT))]) = .ok (.next [some P, some (itsT L), some (.ref h.length)]) (h ++ [some (.lst (((pre ++ [k + 1]) ++ [k]).map iT))]) := by
          have z : ((pre ++ [k + 1]).map iT).length < lim := by rw [List.length_map, List.length_append]; exact Nat.lt_trans (m := 200) (by simp; omega) (by decide)
          simp only [B6, evSs, evS, evE, evEs, List.getElem?_cons_zero, List.getElem?_cons_succ, R_ok, lkN, meOk, if_pos, ixL, ofO_s, lk_int, mkF, opSub, e1, apN _ _ _ z]
          rw [List.map_append (l₂ := [k])]
          rfl
        simp only [whlLoop, t1, R_ok, if_pos, a1]
        rw [show pre ++ (k + 1) :: ms = pre ++ [k + 1] ++ ms by simp]
        exact r
      · rw [List.mem_cons, hm]
        constructor
        · rintro (rfl | ⟨a, b⟩)
          · exact ⟨Nat.le_refl _, ha⟩
          · exact ⟨by omega, b⟩
        · rintro ⟨a, b⟩
          rcases Nat.lt_or_ge j (k + 1) with g | g
          · exact Or.inr ⟨by omega, b⟩
          · exact Or.inl (by omega)
theorem und_nums (n : Nat) : ∀ l : List Nat, T.unds n (l.map iT) = true
  | [] => rfl
  | _ :: l => by rw [List.map_cons, T.unds, und_nums n l]; rfl
theorem revN (l : List Nat) : (l.map iT).reverse = l.reverse.map iT := List.map_reverse.symm
/-- first_sight -/
theorem sp6 (n : Nat) (L : List Item) (w : T) (h : Hm) (hL : L.length < 50) : ∃ ms : List Nat, call Φ tf (n + 1) 6 [.tup [itsT L, w]] h = .ok (numsT ms) h ∧ ∀ j, j ∈ ms ↔ (j ≤ L.length ∧ (L.drop j).all anyI = true) := by
  have e0 : (L.drop L.length).all anyI = true := by rw [List.drop_length]; rfl
  obtain ⟨ms, r, hm⟩ := lp6 ⟨call Φ tf n, tf⟩ L (.tup [itsT L, w]) h L.length [] 1000 (Nat.le_refl _) e0 (by simp; omega) (by omega)
  refine ⟨ms.reverse, ?_, fun j => by rw [List.mem_reverse]; exact hm j⟩
  rw [call_eq (d := ⟨1, 3, b6⟩) rfl rfl, b6]
  rw [ss_step (σ' := [some (.tup [itsT L, w]), some (itsT L), none]) (h' := h) (by simp only [evSs, evS, evB, evE, evEs, evI, List.map_cons, List.map_nil, List.replicate, List.cons_append, List.nil_append, List.getElem?_cons_zero, List.getElem?_cons_succ, List.set_cons_zero, List.set_cons_succ, R_ok, R_exc, lk_str, lk_int, lk_bl, lk_non, lk_tup, lk_lst, tr_bl, Option.map_some, ofO_s, mkF, if_pos, if_neg Bool.false_ne_true, Bool.not_true, Bool.not_false, Tg.put, Tg.puts, Option.bind_some, ixz])]
  rw [ss_step (σ' := [some (.tup [itsT L, w]), some (itsT L), some (.ref h.length)]) (h' := h ++ [some (.lst ([L.length].map iT))]) (by simp only [evSs, evS, evB, evE, evEs, evI, List.map_cons, List.map_nil, List.replicate, List.cons_append, List.nil_append, List.getElem?_cons_zero, List.getElem?_cons_succ, List.set_cons_zero, List.set_cons_succ, R_ok, R_exc, lk_str, lk_int, lk_bl, lk_non, lk_tup, lk_lst, tr_bl, Option.map_some, ofO_s, mkF, if_pos, if_neg Bool.false_ne_true, Bool.not_true, Bool.not_false, Tg.put, Tg.puts, Option.bind_some, lk_its, lenIt, mk]; rfl)]
  rw [ss_step (σ' := [some (.tup [itsT L, w]), some (itsT L), some (.ref h.length)]) (h' := h ++ [some (.lst (ms.map iT))]) (by rw [evS]; exact r)]
  rw [ss_ret (t := numsT ms.reverse) (h' := h ++ [some (.lst (ms.map iT))]) (by simp only [evSs, evS, evB, evE, evEs, evI, List.map_cons, List.map_nil, List.replicate, List.cons_append, List.nil_append, List.getElem?_cons_zero, List.getElem?_cons_succ, List.set_cons_zero, List.set_cons_succ, R_ok, R_exc, lk_str, lk_int, lk_bl, lk_non, lk_tup, lk_lst, tr_bl, Option.map_some, ofO_s, mkF, if_pos, if_neg Bool.false_ne_true, Bool.not_true, Bool.not_false, Tg.put, Tg.puts, Option.bind_some, lkN, revO, biO, revN, numsT])]
  exact leave_app _ (und_nums _ _)
/-! ### first_trace -/
def C8 : Ex := .and (.cmp .lt (.ix (.v 2) (.neg (.c (.int 1)))) (.bi false .len [.v 1])) (.cmp .eq (.ix (.ix (.v 1) (.ix (.v 2) (.neg (.c (.int 1))))) (.c (.int 1))) (.c (.str [97, 110, 121])))
def B8 : List St := [.ex (.me .append (.v 2) [.bin false .add (.ix (.v 2) (.neg (.c (.int 1)))) (.c (.int 1))])]
theorem take_all (L : List Item) (k : Nat) (hk : k < L.length) : (L.take (k + 1)).all anyI = ((L.take k).all anyI && anyI L[k]) := by
  rw [List.take_succ_eq_append_getElem hk, List.all_append]
  simp
theorem lp8 (Γ : Env) (L : List Item) (P : T) (h : Hm) : ∀ (m k : Nat) (pre : List Nat) (f : Nat), k + m = L.length → (L.take k).all anyI = true → pre.length + m < 100 → m < f →
    ∃ ms : List Nat, whlLoop (fun σ h => evB Γ C8 σ h) (fun σ h => evSs Γ B8 σ h) f [some P, some (itsT L), some (.ref h.length)] (h ++ [some (.lst ((pre ++ [k]).map iT))]) = .ok (.next [some P, some (itsT L), some (.ref h.length)]) (h ++ [some (.lst ((pre ++ ms).map iT))]) ∧ ∀ j, j ≤ L.length → (j ∈ ms ↔ (k ≤ j ∧ (L.take j).all anyI = true))
  | _, _, _, 0, _, _, _, hf => absurd hf (Nat.not_lt_zero _)
  | 0, k, pre, f + 1, hk, ha, hp, hf => by
    refine ⟨[k], ?_, fun j hj => ?_⟩
    · have d : decide (((k : Nat) : Int) < (L.length : Int)) = false := decide_eq_false (by omega)
      have t1 : evB Γ C8 [some P, some (itsT L), some (.ref h.length)] (h ++ [some (.lst ((pre ++ [k]).map iT))]) = .ok false (h ++ [some (.lst ((pre ++ [k]).map iT))]) := by
        simp only [C8, evB, evE, evEs, List.map_cons, List.map_nil, List.getElem?_cons_zero, List.getElem?_cons_succ, R_ok, lkN, ixL, ofO_s, lk_int, lk_its, lenIt, mkF, cmO, d, if_neg Bool.false_ne_true]
      simp only [whlLoop, t1, R_ok, if_neg Bool.false_ne_true]
    · rw [List.mem_singleton]
      constructor
      · rintro rfl; exact ⟨Nat.le_refl _, ha⟩
      · rintro ⟨a, _⟩; omega
  | m + 1, k, pre, f + 1, hk, ha, hp, hf => by
    have hk2 : k < L.length := by omega
    have d : decide (((k : Nat) : Int) < (L.length : Int)) = true := decide_eq_true (by omega)
    have e1 : ((k : Int) + 1) = ((k + 1 : Nat) : Int) := by omega
    have t1 : evB Γ C8 [some P, some (itsT L), some (.ref h.length)] (h ++ [some (.lst ((pre ++ [k]).map iT))]) = .ok (anyI L[k]) (h ++ [some (.lst ((pre ++ [k]).map iT))]) := by
      simp only [C8, evB, evE, evEs, List.map_cons, List.map_nil, List.getElem?_cons_zero, List.getElem?_cons_succ, R_ok, lkN, ixL, ofO_s, lk_int, cmO, d, if_pos, mkF, lk_its, lenIt, ixI L k hk2, lk_it, ixK, lk_str, eqs, ifK]
    have dk : (L.take (k + 1)).all anyI = anyI L[k] := by rw [take_all L k hk2, ha, Bool.true_and]
    cases q : anyI L[k] with
    | false =>
      rw [q] at t1 dk
      refine ⟨[k], ?_, fun j hj => ?_⟩
      · simp only [whlLoop, t1, R_ok, if_neg Bool.false_ne_true]
      · rw [List.mem_singleton]
        constructor
        · rintro rfl; exact ⟨Nat.le_refl _, ha⟩
        · rintro ⟨a, b⟩
          rcases Nat.lt_or_ge k j with g | g
          · have : L[k] ∈ L.take j := List.mem_take_iff_getElem.mpr ⟨k, by omega, rfl⟩
            have := List.all_eq_true.mp b _ this
            rw [q] at this; cases this
          · omega
    | true =>
      rw [q] at t1 dk
      obtain ⟨ms, r, hm⟩ := lp8 Γ L P h m (k + 1) (pre ++ [k]) f (by omega) dk (by rw [List.length_append]; simp; omega) (by omega)
      refine ⟨k :: ms, ?_, fun j hj => ?_⟩
      · have a1 : evSs Γ B8 [some P, some (itsT L), some (.ref h.length)] (h ++ [some (.lst ((pre ++ [k]).map iT))]) = .ok (.next [some P, some (itsT L), some (.ref h.length)]) (h ++ [some (.lst (((pre ++ [k]) ++ [k + 1]).map iT))]) := by
          have z : ((pre ++ [k]).map iT).length < lim := by rw [List.length_map, List.length_append]; exact Nat.lt_trans (m := 200) (by simp; omega) (by decide)
          simp only [B8, evSs, evS, evE, evEs, List.getElem?_cons_zero, List.getElem?_cons_succ, R_ok, lkN, meOk, if_pos, ixL, ofO_s, lk_int, mkF, opAdd, e1, apN _ _ _ z]
          rw [List.map_append (l₂ := [k + 1])]
          rfl
        simp only [whlLoop, t1, R_ok, if_pos, a1]
        rw [show pre ++ k :: ms = pre ++ [k] ++ ms by simp]
        exact r
      · rw [List.mem_cons, hm j hj]
        constructor
        · rintro (rfl | ⟨a, b⟩)
          · exact ⟨Nat.le_refl _, ha⟩
          · exact ⟨by omega, b⟩
        · rintro ⟨a, b⟩
          rcases Nat.lt_or_ge k j with g | g
          · exact Or.inr ⟨by omega, b⟩
          · exact Or.inl (by omega)
theorem sp8 (n : Nat) (L : List Item) (w : T) (h : Hm) (hL : L.length < 50) : ∃ ms : List Nat, call Φ tf (n + 1) 8 [.tup [itsT L, w]] h = .ok (numsT ms) h ∧ ∀ j, j ≤ L.length → (j ∈ ms ↔ (L.take j).all anyI = true) := by
  obtain ⟨ms, r, hm⟩ := lp8 ⟨call Φ tf n, tf⟩ L (.tup [itsT L, w]) h L.length 0 [] 1000 (Nat.zero_add _) rfl (by simp; omega) (by omega)
  refine ⟨ms, ?_, fun j hj => by rw [hm j hj]; simp⟩
  rw [call_eq (d := ⟨1, 3, b8⟩) rfl rfl, b8]
  rw [ss_step (σ' := [some (.tup [itsT L, w]), some (itsT L), none]) (h' := h) (by simp only [evSs, evS, evB, evE, evEs, evI, List.map_cons, List.map_nil, List.replicate, List.cons_append, List.nil_append, List.getElem?_cons_zero, List.getElem?_cons_succ, List.set_cons_zero, List.set_cons_succ, R_ok, R_exc, lk_str, lk_int, lk_bl, lk_non, lk_tup, lk_lst, tr_bl, Option.map_some, ofO_s, mkF, if_pos, if_neg Bool.false_ne_true, Bool.not_true, Bool.not_false, Tg.put, Tg.puts, Option.bind_some, ixz])]
  rw [ss_step (σ' := [some (.tup [itsT L, w]), some (itsT L), some (.ref h.length)]) (h' := h ++ [some (.lst ([0].map iT))]) (by simp only [evSs, evS, evB, evE, evEs, evI, List.map_cons, List.map_nil, List.replicate, List.cons_append, List.nil_append, List.getElem?_cons_zero, List.getElem?_cons_succ, List.set_cons_zero, List.set_cons_succ, R_ok, R_exc, lk_str, lk_int, lk_bl, lk_non, lk_tup, lk_lst, tr_bl, Option.map_some, ofO_s, mkF, if_pos, if_neg Bool.false_ne_true, Bool.not_true, Bool.not_false, Tg.put, Tg.puts, Option.bind_some, mk]; rfl)]
  rw [ss_step (σ' := [some (.tup [itsT L, w]), some (itsT L), some (.ref h.length)]) (h' := h ++ [some (.lst (ms.map iT))]) (by rw [evS]; exact r)]
  rw [ss_ret (t := numsT ms) (h' := h ++ [some (.lst (ms.map iT))]) (by simp only [evSs, evS, evB, evE, evEs, evI, List.map_cons, List.map_nil, List.replicate, List.cons_append, List.nil_append, List.getElem?_cons_zero, List.getElem?_cons_succ, List.set_cons_zero, List.set_cons_succ, R_ok, R_exc, lk_str, lk_int, lk_bl, lk_non, lk_tup, lk_lst, tr_bl, Option.map_some, ofO_s, mkF, if_pos, if_neg Bool.false_ne_true, Bool.not_true, Bool.not_false, Tg.put, Tg.puts, Option.bind_some, lkN, biO, numsT])]
  exact leave_app _ (und_nums _ _)
end K60
end
/-! part K60h -/
section
set_option autoImplicit false
set_option linter.all false
set_option maxRecDepth 10000
/-! K60h: the program's sights and traces: the next ones. -/
namespace K60
open Tw
theorem andE {Γ : Env} {a b : Ex} {σ : Sl} {h : Hm} {x y : Bool} (e : evE Γ a σ h = .ok (.bl x) h) (f : evE Γ b σ h = .ok (.bl y) h) : evE Γ (.and a b) σ h = .ok (.bl (x && y)) h := by
  simp only [evE, e, R_ok, lk_bl, tr_bl]
  cases x
  · rfl
  · simp only [f, Bool.true_and]
theorem andB {Γ : Env} {a b : Ex} {σ : Sl} {h : Hm} {x y : Bool} (e : evB Γ a σ h = .ok x h) (f : evB Γ b σ h = .ok y h) : evB Γ (.and a b) σ h = .ok (x && y) h := by
  simp only [evB, e, R_ok]
  cases x
  · rfl
  · simp only [f, Bool.true_and, if_pos]
theorem orB {Γ : Env} {a b : Ex} {σ : Sl} {h : Hm} {x y : Bool} (e : evB Γ a σ h = .ok x h) (f : evB Γ b σ h = .ok y h) : evB Γ (.or a b) σ h = .ok (x || y) h := by
  simp only [evB, e, R_ok]
  cases x
  · simp only [f, Bool.false_or, if_neg Bool.false_ne_true]
  · rfl
theorem eqv_int (a b : Nat) : T.eqv (.int a) (.int b) = (a == b) := by
  have : T.eqv (.int a) (.int b) = ((a : Int) == (b : Int)) := rfl
  rw [this, Bool.eq_iff_iff, beq_iff_eq, beq_iff_eq]
  omega
theorem pls_num (d : Nat) : ∀ l : List Nat, T.pls d (l.map iT) = true
  | [] => rfl
  | _ :: l => by rw [List.map_cons, T.pls, pls_num d l]; rfl
theorem any_num (k : Nat) : ∀ l : List Nat, ((l.map iT).any fun y => T.eqv y (.int k)) = l.contains k
  | [] => rfl
  | a :: l => by
    rw [List.map_cons, List.any_cons, any_num k l, List.contains_cons, show T.eqv (iT a) (.int k) = (a == k) from eqv_int a k]
    congr 1
    rw [Bool.eq_iff_iff, beq_iff_eq, beq_iff_eq]
    exact eq_comm
theorem inNt (k : Nat) (l : List Nat) : inO (.int k) (numsT l) = some (l.contains k) := by
  simp only [inO, numsT, pls_num, any_num]
  rfl
theorem inNl (k : Nat) (l : List Nat) : inO (.int k) (.lst (l.map iT)) = some (l.contains k) := by
  simp only [inO, pls_num, any_num]
  rfl
theorem ifK1 (b : Bool) : ((if b then ANY else ONE) == [111, 110, 101]) = !b := by cases b <;> rfl
def dn : Nat → List T
  | 0 => []
  | k + 1 => iT k :: dn k
theorem steps_dn : ∀ k : Nat, steps ((k : Int) - 1) (-1) k = dn k
  | 0 => rfl
  | k + 1 => by
    rw [steps, dn, ← steps_dn k]
    have e : (((k + 1 : Nat) : Int) - 1) = (k : Int) := by omega
    rw [e]
    rfl
def Sx7 : Ex := .and (.cmp .in_ (.v 1) (.v 9)) (.and (.cmp .in_ (.v 4) (.v 2)) (.cmp .eq (.v 10) (.c (.str [97, 110, 121]))))
def M7 : Ex := .and (.cmp .in_ (.v 1) (.v 9)) (.and (.cmp .in_ (.bin false .add (.v 4) (.c (.int 1))) (.v 2)) (.cmp .eq (.v 10) (.c (.str [111, 110, 101]))))
def C7 : Ex := .or (.v 7) (.or (.v 8) (.and (.cmp .eq (.v 10) (.c (.str [97, 110, 121]))) (.cmp .in_ (.bin false .add (.v 4) (.c (.int 1))) (.v 3))))
def B7 : List St := [.asg (.u [.v 9, .v 10]) (.ix (.v 5) (.v 4)), .asg (.v 7) Sx7, .asg (.v 8) M7, .if_ C7 [.ex (.me .append (.v 3) [.v 4])] []]
theorem lk_nums (h : Hm) (l : List Nat) : look h (numsT l) = numsT l := rfl
/-- one turn of next_sight -/
theorem bd7 (Γ : Env) (L : List Item) (P W : T) (c : Nat) (ns pre : List Nat) (h : Hm) (k : Nat) (hk : k < L.length) (s7 s8 s9 s10 : Option T) (hp : pre.length < 100) :
    ∃ (t7 t8 t9 t10 : Option T), evSs Γ B7 [some P, some (.str [c]), some (numsT ns), some (.ref h.length), some (iT k), some (itsT L), some W, s7, s8, s9, s10] (h ++ [some (.lst (pre.map iT))]) =
      .ok (.next [some P, some (.str [c]), some (numsT ns), some (.ref h.length), some (iT k), some (itsT L), some W, t7, t8, t9, t10])
        (h ++ [some (.lst ((if (L[k].1.contains c && (ns.contains k && anyI L[k])) || ((L[k].1.contains c && (ns.contains (k + 1) && !anyI L[k])) || (anyI L[k] && pre.contains (k + 1))) then pre ++ [k] else pre).map iT))]) := by
  have e1 : ((k : Int) + 1) = ((k + 1 : Nat) : Int) := by omega
  obtain ⟨H, hH⟩ : ∃ H, H = h ++ [some (.lst (pre.map iT))] := ⟨_, rfl⟩
  have lkH : look H (.ref h.length) = .lst (pre.map iT) := by rw [hH]; exact lkN _ _
  have pu : Tg.put (.u [.v 9, .v 10]) (itT L[k]) [some P, some (.str [c]), some (numsT ns), some (.ref h.length), some (iT k), some (itsT L), some W, s7, s8, s9, s10] = some [some P, some (.str [c]), some (numsT ns), some (.ref h.length), some (iT k), some (itsT L), some W, s7, s8, some (.str L[k].1), some (.str (if anyI L[k] then ANY else ONE))] := rfl
  have a1 : evS Γ (.asg (.u [.v 9, .v 10]) (.ix (.v 5) (.v 4))) [some P, some (.str [c]), some (numsT ns), some (.ref h.length), some (iT k), some (itsT L), some W, s7, s8, s9, s10] H = .ok (.next [some P, some (.str [c]), some (numsT ns), some (.ref h.length), some (iT k), some (itsT L), some W, s7, s8, some (.str L[k].1), some (.str (if anyI L[k] then ANY else ONE))]) H :=
    asgS _ (by simp only [evE, List.getElem?_cons_zero, List.getElem?_cons_succ, ofO_s, R_ok, lk_its, iT, ixI L k hk]) pu
  obtain ⟨x7, h7⟩ : ∃ x, x = (L[k].1.contains c && (ns.contains k && anyI L[k])) := ⟨_, rfl⟩
  obtain ⟨x8, h8⟩ : ∃ x, x = (L[k].1.contains c && (ns.contains (k + 1) && !anyI L[k])) := ⟨_, rfl⟩
  have a2 : evE Γ Sx7 [some P, some (.str [c]), some (numsT ns), some (.ref h.length), some (iT k), some (itsT L), some W, s7, s8, some (.str L[k].1), some (.str (if anyI L[k] then ANY else ONE))] H = .ok (.bl x7) H := by
    rw [h7]
    refine andE ?_ (andE ?_ ?_)
    · simp only [evE, List.getElem?_cons_zero, List.getElem?_cons_succ, R_ok, lk_str, cmO, inS, Option.map_some, ofO_s]
    · simp only [evE, List.getElem?_cons_zero, List.getElem?_cons_succ, R_ok, iT, lk_int, lk_nums, cmO, inNt, Option.map_some, ofO_s]
    · simp only [evE, List.getElem?_cons_zero, List.getElem?_cons_succ, R_ok, lk_str, cmO, eqs, ifK, Option.map_some, ofO_s]
  have a3 : evE Γ M7 [some P, some (.str [c]), some (numsT ns), some (.ref h.length), some (iT k), some (itsT L), some W, some (.bl x7), s8, some (.str L[k].1), some (.str (if anyI L[k] then ANY else ONE))] H = .ok (.bl x8) H := by
    rw [h8]
    refine andE ?_ (andE ?_ ?_)
    · simp only [evE, List.getElem?_cons_zero, List.getElem?_cons_succ, R_ok, lk_str, cmO, inS, Option.map_some, ofO_s]
    · simp only [evE, List.getElem?_cons_zero, List.getElem?_cons_succ, R_ok, iT, lk_int, lk_nums, cmO, opAdd, e1, mkF, inNt, Option.map_some, ofO_s]
    · simp only [evE, List.getElem?_cons_zero, List.getElem?_cons_succ, R_ok, lk_str, cmO, eqs, ifK1, Option.map_some, ofO_s]
  have a4 : evB Γ C7 [some P, some (.str [c]), some (numsT ns), some (.ref h.length), some (iT k), some (itsT L), some W, some (.bl x7), some (.bl x8), some (.str L[k].1), some (.str (if anyI L[k] then ANY else ONE))] H = .ok (x7 || (x8 || (anyI L[k] && pre.contains (k + 1)))) H := by
    refine orB ?_ (orB ?_ (andB ?_ ?_))
    · simp only [evB, evE, List.getElem?_cons_zero, List.getElem?_cons_succ, R_ok, lk_bl, tr_bl, ofO_s]
    · simp only [evB, evE, List.getElem?_cons_zero, List.getElem?_cons_succ, R_ok, lk_bl, tr_bl, ofO_s]
    · simp only [evB, evE, List.getElem?_cons_zero, List.getElem?_cons_succ, R_ok, lk_str, cmO, eqs, ifK, Option.map_some, ofO_s]
    · simp only [evB, evE, List.getElem?_cons_zero, List.getElem?_cons_succ, R_ok, iT, lk_int, lkH, cmO, opAdd, e1, mkF, inNl, Option.map_some, ofO_s]
  refine ⟨some (.bl x7), some (.bl x8), some (.str L[k].1), some (.str (if anyI L[k] then ANY else ONE)), ?_⟩
  rw [← h7, ← h8, ← hH, B7, ss_step a1]
  rw [ss_step (σ' := [some P, some (.str [c]), some (numsT ns), some (.ref h.length), some (iT k), some (itsT L), some W, some (.bl x7), s8, some (.str L[k].1), some (.str (if anyI L[k] then ANY else ONE))]) (h' := H) (asgS _ a2 rfl)]
  rw [ss_step (σ' := [some P, some (.str [c]), some (numsT ns), some (.ref h.length), some (iT k), some (itsT L), some W, some (.bl x7), some (.bl x8), some (.str L[k].1), some (.str (if anyI L[k] then ANY else ONE))]) (h' := H) (asgS _ a3 rfl)]
  cases q : (x7 || (x8 || (anyI L[k] && pre.contains (k + 1)))) with
  | false =>
    rw [q] at a4
    simp only [evSs, evS, a4, R_ok, if_neg Bool.false_ne_true]
    rw [hH]
  | true =>
    rw [q] at a4
    have z : (pre.map iT).length < lim := by rw [List.length_map]; exact Nat.lt_trans (m := 200) (by omega) (by decide)
    have a5 : evE Γ (.me .append (.v 3) [.v 4]) [some P, some (.str [c]), some (numsT ns), some (.ref h.length), some (iT k), some (itsT L), some W, some (.bl x7), some (.bl x8), some (.str L[k].1), some (.str (if anyI L[k] then ANY else ONE))] H = .ok .non (h ++ [some (.lst ((pre ++ [k]).map iT))]) := by
      simp only [evE, evEs, List.getElem?_cons_zero, List.getElem?_cons_succ, R_ok, lkH, meOk, if_pos]
      rw [hH, apN _ _ _ z, List.map_append]
      rfl
    simp only [evSs, evS, a4, R_ok, if_pos, a5]
theorem cont_app (pre : List Nat) (k j : Nat) : (pre ++ [k]).contains j = (pre.contains j || j == k) := by
  rw [Bool.eq_iff_iff]
  simp [List.contains_iff_mem, or_comm]
theorem lp7 (Γ : Env) (L : List Item) (P W : T) (c : Nat) (ns : List Nat) (h : Hm) (G : Nat → Bool)
    (hG : ∀ k (hk : k < L.length), G k = ((L[k].1.contains c && (ns.contains k && anyI L[k])) || ((L[k].1.contains c && (ns.contains (k + 1) && !anyI L[k])) || (anyI L[k] && G (k + 1))))) :
    ∀ (k : Nat) (pre : List Nat) (s4 s7 s8 s9 s10 : Option T), k ≤ L.length → (∀ j, j ≤ L.length → k ≤ j → pre.contains j = G j) → (∀ j, j < k → pre.contains j = false) → pre.length + k < 100 →
    ∃ (ms : List Nat) (t4 t7 t8 t9 t10 : Option T), forLoop (.v 4) (fun σ h => evSs Γ B7 σ h) (dn k) [some P, some (.str [c]), some (numsT ns), some (.ref h.length), s4, some (itsT L), some W, s7, s8, s9, s10] (h ++ [some (.lst (pre.map iT))]) =
      .ok (.next [some P, some (.str [c]), some (numsT ns), some (.ref h.length), t4, some (itsT L), some W, t7, t8, t9, t10]) (h ++ [some (.lst (ms.map iT))]) ∧ ∀ j, j ≤ L.length → ms.contains j = G j
  | 0, pre, s4, s7, s8, s9, s10, _, h1, _, _ => ⟨pre, s4, s7, s8, s9, s10, rfl, fun j hj => h1 j hj (Nat.zero_le _)⟩
  | k + 1, pre, s4, s7, s8, s9, s10, hk, h1, h2, hp => by
    have hk2 : k < L.length := by omega
    obtain ⟨t7, t8, t9, t10, r⟩ := bd7 Γ L P W c ns pre h k hk2 s7 s8 s9 s10 (by omega)
    rw [h1 (k + 1) hk (Nat.le_refl _), ← hG k hk2] at r
    have q : ∃ pre' : List Nat, pre' = (if G k then pre ++ [k] else pre) := ⟨_, rfl⟩
    obtain ⟨pre', hq⟩ := q
    rw [← hq] at r
    have c1 : ∀ j, j ≤ L.length → k ≤ j → pre'.contains j = G j := by
      intro j hj hkj
      cases g : G k with
      | false =>
        rw [hq, g, if_neg Bool.false_ne_true]
        rcases Nat.lt_or_ge k j with a | a
        · exact h1 j hj a
        · have : j = k := by omega
          rw [this, g]
          exact h2 k (Nat.lt_succ_self _)
      | true =>
        rw [hq, g, if_pos rfl, cont_app]
        rcases Nat.lt_or_ge k j with a | a
        · rw [h1 j hj a]
          have : (j == k) = false := beq_false_of_ne (by omega)
          rw [this, Bool.or_false]
        · have : j = k := by omega
          rw [this, g, beq_self_eq_true, Bool.or_true]
    have c2 : ∀ j, j < k → pre'.contains j = false := by
      intro j hj
      cases g : G k with
      | false =>
        rw [hq, g, if_neg Bool.false_ne_true]
        exact h2 j (by omega)
      | true =>
        rw [hq, g, if_pos rfl, cont_app, h2 j (by omega)]
        exact beq_false_of_ne (by omega)
    have c3 : pre'.length + k < 100 := by
      rw [hq]
      split
      · rw [List.length_append]; simp; omega
      · omega
    obtain ⟨ms, u4, u7, u8, u9, u10, r2, hm⟩ := lp7 Γ L P W c ns h G hG k pre' (some (iT k)) t7 t8 t9 t10 (by omega) c1 c2 c3
    refine ⟨ms, u4, u7, u8, u9, u10, ?_, hm⟩
    rw [dn, forLoop]
    simp only [Tg.put, List.set_cons_succ, List.set_cons_zero, r, R_ok]
    exact r2
theorem contains_rev (l : List Nat) (j : Nat) : l.reverse.contains j = l.contains j := by
  rw [Bool.eq_iff_iff]
  simp
/-- next_sight -/
theorem sp7 (n : Nat) (L : List Item) (w : Bool) (c : Nat) (ns : List Nat) (h : Hm) (hL : L.length < 50) (G : Nat → Bool)
    (hG : ∀ k (hk : k < L.length), G k = ((L[k].1.contains c && (ns.contains k && anyI L[k])) || ((L[k].1.contains c && (ns.contains (k + 1) && !anyI L[k])) || (anyI L[k] && G (k + 1))))) (hn : G L.length = !w) :
    ∃ ms : List Nat, call Φ tf (n + 1) 7 [.tup [itsT L, .bl w], .str [c], numsT ns] h = .ok (numsT ms) h ∧ ∀ j, j ≤ L.length → ms.contains j = G j := by
  obtain ⟨pre, hpre⟩ : ∃ pre : List Nat, pre = if w then [] else [L.length] := ⟨_, rfl⟩
  have q1 : ∀ j, j ≤ L.length → L.length ≤ j → pre.contains j = G j := by
    intro j a b
    have : j = L.length := by omega
    rw [this, hn, hpre]
    cases w
    · simp
    · rfl
  have q2 : ∀ j, j < L.length → pre.contains j = false := by
    intro j a
    rw [hpre]
    cases w
    · simp; omega
    · rfl
  have q3 : pre.length + L.length < 100 := by rw [hpre]; cases w <;> simp <;> omega
  obtain ⟨ms, t4, t7, t8, t9, t10, r, hm⟩ := lp7 ⟨call Φ tf n, tf⟩ L (.tup [itsT L, .bl w]) (.bl w) c ns h G hG L.length pre none none none none none (Nat.le_refl _) q1 q2 q3
  refine ⟨ms.reverse, ?_, fun j hj => by rw [contains_rev]; exact hm j hj⟩
  have rg : rngO [.int ((L.length : Int) - 1), .int (-1), .int (-1)] = some (dn L.length) := by
    have hc : -(lim : Int) ≤ (L.length : Int) - 1 ∧ (L.length : Int) - 1 ≤ lim ∧ -(lim : Int) ≤ -1 ∧ (-1 : Int) ≤ lim ∧ (-1 : Int) = -1 := ⟨by unfold lim; omega, by unfold lim; omega, by decide, by decide, rfl⟩
    have e : ((L.length : Int) - 1 - -1).toNat = L.length := by omega
    have r0 : rngO [.int ((L.length : Int) - 1), .int (-1), .int (-1)] = if -(lim : Int) ≤ (L.length : Int) - 1 ∧ (L.length : Int) - 1 ≤ lim ∧ -(lim : Int) ≤ -1 ∧ (-1 : Int) ≤ lim ∧ (-1 : Int) = -1 then some (steps ((L.length : Int) - 1) (-1) ((L.length : Int) - 1 - -1).toNat) else none := rfl
    rw [r0, if_pos hc, e, steps_dn]
  rw [call_eq (d := ⟨3, 11, b7⟩) rfl rfl, b7]
  rw [ss_step (σ' := [some (.tup [itsT L, .bl w]), some (.str [c]), some (numsT ns), none, none, some (itsT L), some (.bl w), none, none, none, none]) (h' := h) (asgS (.tup [itsT L, .bl w]) rfl rfl)]
  rw [ss_step (σ' := [some (.tup [itsT L, .bl w]), some (.str [c]), some (numsT ns), some (.ref h.length), none, some (itsT L), some (.bl w), none, none, none, none]) (h' := h ++ [some (.lst (pre.map iT))]) (by
    rw [hpre]
    cases w
    · simp only [evSs, evS, evB, evE, evEs, evI, List.map_cons, List.map_nil, List.replicate, List.cons_append, List.nil_append, List.getElem?_cons_zero, List.getElem?_cons_succ, List.set_cons_zero, List.set_cons_succ, R_ok, R_exc, lk_str, lk_int, lk_bl, lk_non, lk_tup, lk_lst, tr_bl, Option.map_some, ofO_s, mkF, if_pos, if_neg Bool.false_ne_true, Bool.not_true, Bool.not_false, Tg.put, Tg.puts, Option.bind_some, lk_its, lenIt, mk]; rfl
    · simp only [evSs, evS, evB, evE, evEs, evI, List.map_cons, List.map_nil, List.replicate, List.cons_append, List.nil_append, List.getElem?_cons_zero, List.getElem?_cons_succ, List.set_cons_zero, List.set_cons_succ, R_ok, R_exc, lk_str, lk_int, lk_bl, lk_non, lk_tup, lk_lst, tr_bl, Option.map_some, ofO_s, mkF, if_pos, if_neg Bool.false_ne_true, Bool.not_true, Bool.not_false, Tg.put, Tg.puts, Option.bind_some, lk_its, lenIt, mk])]
  rw [ss_step (σ' := [some (.tup [itsT L, .bl w]), some (.str [c]), some (numsT ns), some (.ref h.length), t4, some (itsT L), some (.bl w), t7, t8, t9, t10]) (h' := h ++ [some (.lst (ms.map iT))]) (by
    have i1 : evI ⟨call Φ tf n, tf⟩ (.range [.bin false .sub (.bi false .len [.v 5]) (.c (.int 1)), .neg (.c (.int 1)), .neg (.c (.int 1))]) [some (.tup [itsT L, .bl w]), some (.str [c]), some (numsT ns), some (.ref h.length), none, some (itsT L), some (.bl w), none, none, none, none] (h ++ [some (.lst (pre.map iT))]) = .ok (dn L.length) (h ++ [some (.lst (pre.map iT))]) := by
      simp only [evSs, evS, evB, evE, evEs, evI, List.map_cons, List.map_nil, List.replicate, List.cons_append, List.nil_append, List.getElem?_cons_zero, List.getElem?_cons_succ, List.set_cons_zero, List.set_cons_succ, R_ok, R_exc, lk_str, lk_int, lk_bl, lk_non, lk_tup, lk_lst, tr_bl, Option.map_some, ofO_s, mkF, if_pos, if_neg Bool.false_ne_true, Bool.not_true, Bool.not_false, Tg.put, Tg.puts, Option.bind_some, lk_its, lenIt, opSub, rg]
    rw [evS, i1]
    exact r)]
  rw [ss_ret (t := numsT ms.reverse) (h' := h ++ [some (.lst (ms.map iT))]) (by simp only [evSs, evS, evB, evE, evEs, evI, List.map_cons, List.map_nil, List.replicate, List.cons_append, List.nil_append, List.getElem?_cons_zero, List.getElem?_cons_succ, List.set_cons_zero, List.set_cons_succ, R_ok, R_exc, lk_str, lk_int, lk_bl, lk_non, lk_tup, lk_lst, tr_bl, Option.map_some, ofO_s, mkF, if_pos, if_neg Bool.false_ne_true, Bool.not_true, Bool.not_false, Tg.put, Tg.puts, Option.bind_some, lkN, revO, biO, revN, numsT])]
  exact leave_app _ (und_nums _ _)
end K60
end
/-! part K60i -/
section
set_option autoImplicit false
set_option linter.all false
set_option maxRecDepth 10000
/-! K60i: next_trace. -/
namespace K60
open Tw
def Sx9 : Ex := .and (.cmp .in_ (.v 1) (.v 9)) (.and (.cmp .in_ (.bin false .add (.v 6) (.c (.int 1))) (.v 2)) (.cmp .eq (.v 10) (.c (.str [97, 110, 121]))))
def M9 : Ex := .and (.cmp .in_ (.v 1) (.v 9)) (.and (.cmp .in_ (.v 6) (.v 2)) (.cmp .eq (.v 10) (.c (.str [111, 110, 101]))))
def C9 : Ex := .or (.v 7) (.or (.v 8) (.and (.cmp .eq (.v 10) (.c (.str [97, 110, 121]))) (.cmp .in_ (.v 6) (.v 3))))
def B9 : List St := [.asg (.v 7) Sx9, .asg (.v 8) M9, .if_ C9 [.ex (.me .append (.v 3) [.bin false .add (.v 6) (.c (.int 1))])] []]
theorem bd9 (Γ : Env) (L : List Item) (P W : T) (c : Nat) (ns pre : List Nat) (h : Hm) (k : Nat) (hk : k < L.length) (s7 s8 : Option T) (hp : pre.length < 100) :
    ∃ (t7 t8 : Option T), evSs Γ B9 [some P, some (.str [c]), some (numsT ns), some (.ref h.length), some (itsT L), some W, some (iT k), s7, s8, some (.str L[k].1), some (.str (if anyI L[k] then ANY else ONE))] (h ++ [some (.lst (pre.map iT))]) =
      .ok (.next [some P, some (.str [c]), some (numsT ns), some (.ref h.length), some (itsT L), some W, some (iT k), t7, t8, some (.str L[k].1), some (.str (if anyI L[k] then ANY else ONE))])
        (h ++ [some (.lst ((if (L[k].1.contains c && (ns.contains (k + 1) && anyI L[k])) || ((L[k].1.contains c && (ns.contains k && !anyI L[k])) || (anyI L[k] && pre.contains k)) then pre ++ [k + 1] else pre).map iT))]) := by
  have e1 : ((k : Int) + 1) = ((k + 1 : Nat) : Int) := by omega
  obtain ⟨H, hH⟩ : ∃ H, H = h ++ [some (.lst (pre.map iT))] := ⟨_, rfl⟩
  have lkH : look H (.ref h.length) = .lst (pre.map iT) := by rw [hH]; exact lkN _ _
  obtain ⟨x7, h7⟩ : ∃ x, x = (L[k].1.contains c && (ns.contains (k + 1) && anyI L[k])) := ⟨_, rfl⟩
  obtain ⟨x8, h8⟩ : ∃ x, x = (L[k].1.contains c && (ns.contains k && !anyI L[k])) := ⟨_, rfl⟩
  have a2 : evE Γ Sx9 [some P, some (.str [c]), some (numsT ns), some (.ref h.length), some (itsT L), some W, some (iT k), s7, s8, some (.str L[k].1), some (.str (if anyI L[k] then ANY else ONE))] H = .ok (.bl x7) H := by
    rw [h7]
    refine andE ?_ (andE ?_ ?_)
    · simp only [evE, List.getElem?_cons_zero, List.getElem?_cons_succ, R_ok, lk_str, cmO, inS, Option.map_some, ofO_s]
    · simp only [evE, List.getElem?_cons_zero, List.getElem?_cons_succ, R_ok, iT, lk_int, lk_nums, cmO, opAdd, e1, mkF, inNt, Option.map_some, ofO_s]
    · simp only [evE, List.getElem?_cons_zero, List.getElem?_cons_succ, R_ok, lk_str, cmO, eqs, ifK, Option.map_some, ofO_s]
  have a3 : evE Γ M9 [some P, some (.str [c]), some (numsT ns), some (.ref h.length), some (itsT L), some W, some (iT k), some (.bl x7), s8, some (.str L[k].1), some (.str (if anyI L[k] then ANY else ONE))] H = .ok (.bl x8) H := by
    rw [h8]
    refine andE ?_ (andE ?_ ?_)
    · simp only [evE, List.getElem?_cons_zero, List.getElem?_cons_succ, R_ok, lk_str, cmO, inS, Option.map_some, ofO_s]
    · simp only [evE, List.getElem?_cons_zero, List.getElem?_cons_succ, R_ok, iT, lk_int, lk_nums, cmO, inNt, Option.map_some, ofO_s]
    · simp only [evE, List.getElem?_cons_zero, List.getElem?_cons_succ, R_ok, lk_str, cmO, eqs, ifK1, Option.map_some, ofO_s]
  have a4 : evB Γ C9 [some P, some (.str [c]), some (numsT ns), some (.ref h.length), some (itsT L), some W, some (iT k), some (.bl x7), some (.bl x8), some (.str L[k].1), some (.str (if anyI L[k] then ANY else ONE))] H = .ok (x7 || (x8 || (anyI L[k] && pre.contains k))) H := by
    refine orB ?_ (orB ?_ (andB ?_ ?_))
    · simp only [evB, evE, List.getElem?_cons_zero, List.getElem?_cons_succ, R_ok, lk_bl, tr_bl, ofO_s]
    · simp only [evB, evE, List.getElem?_cons_zero, List.getElem?_cons_succ, R_ok, lk_bl, tr_bl, ofO_s]
    · simp only [evB, evE, List.getElem?_cons_zero, List.getElem?_cons_succ, R_ok, lk_str, cmO, eqs, ifK, Option.map_some, ofO_s]
    · simp only [evB, evE, List.getElem?_cons_zero, List.getElem?_cons_succ, R_ok, iT, lk_int, lkH, cmO, inNl, Option.map_some, ofO_s]
  refine ⟨some (.bl x7), some (.bl x8), ?_⟩
  rw [← h7, ← h8, ← hH, B9]
  rw [ss_step (σ' := [some P, some (.str [c]), some (numsT ns), some (.ref h.length), some (itsT L), some W, some (iT k), some (.bl x7), s8, some (.str L[k].1), some (.str (if anyI L[k] then ANY else ONE))]) (h' := H) (asgS _ a2 rfl)]
  rw [ss_step (σ' := [some P, some (.str [c]), some (numsT ns), some (.ref h.length), some (itsT L), some W, some (iT k), some (.bl x7), some (.bl x8), some (.str L[k].1), some (.str (if anyI L[k] then ANY else ONE))]) (h' := H) (asgS _ a3 rfl)]
  cases q : (x7 || (x8 || (anyI L[k] && pre.contains k))) with
  | false =>
    rw [q] at a4
    simp only [evSs, evS, a4, R_ok, if_neg Bool.false_ne_true]
    rw [hH]
  | true =>
    rw [q] at a4
    have z : (pre.map iT).length < lim := by rw [List.length_map]; exact Nat.lt_trans (m := 200) (by omega) (by decide)
    have a5 : evE Γ (.me .append (.v 3) [.bin false .add (.v 6) (.c (.int 1))]) [some P, some (.str [c]), some (numsT ns), some (.ref h.length), some (itsT L), some W, some (iT k), some (.bl x7), some (.bl x8), some (.str L[k].1), some (.str (if anyI L[k] then ANY else ONE))] H = .ok .non (h ++ [some (.lst ((pre ++ [k + 1]).map iT))]) := by
      simp only [evE, evEs, List.getElem?_cons_zero, List.getElem?_cons_succ, R_ok, lkH, meOk, if_pos, iT, lk_int, opAdd, e1, ofO_s, mkF]
      show meR .append (.ref h.length) [.int ((k + 1 : Nat) : Int)] H = _
      rw [hH]
      refine (apN _ _ _ z).trans ?_
      rw [List.map_append (l₂ := [k + 1])]
      rfl
    simp only [evSs, evS, a4, R_ok, if_pos, a5]
theorem lp9 (Γ : Env) (L : List Item) (P W : T) (c : Nat) (ns : List Nat) (h : Hm) (G : Nat → Bool)
    (hG : ∀ k (hk : k < L.length), G (k + 1) = ((L[k].1.contains c && (ns.contains (k + 1) && anyI L[k])) || ((L[k].1.contains c && (ns.contains k && !anyI L[k])) || (anyI L[k] && G k)))) :
    ∀ (m k : Nat) (pre : List Nat) (s6 s7 s8 s9 s10 : Option T), k + m = L.length → (∀ j, j ≤ k → pre.contains j = G j) → (∀ j, k < j → pre.contains j = false) → pre.length + m < 100 →
    ∃ (ms : List Nat) (t6 t7 t8 t9 t10 : Option T), forLoop (.u [.v 6, .u [.v 9, .v 10]]) (fun σ h => evSs Γ B9 σ h) (enumT k ((L.drop k).map itT)) [some P, some (.str [c]), some (numsT ns), some (.ref h.length), some (itsT L), some W, s6, s7, s8, s9, s10] (h ++ [some (.lst (pre.map iT))]) =
      .ok (.next [some P, some (.str [c]), some (numsT ns), some (.ref h.length), some (itsT L), some W, t6, t7, t8, t9, t10]) (h ++ [some (.lst (ms.map iT))]) ∧ ∀ j, j ≤ L.length → ms.contains j = G j
  | 0, k, pre, s6, s7, s8, s9, s10, hk, h1, _, _ => ⟨pre, s6, s7, s8, s9, s10, by rw [List.drop_eq_nil_of_le (by omega)]; rfl, fun j hj => h1 j (by omega)⟩
  | m + 1, k, pre, s6, s7, s8, s9, s10, hk, h1, h2, hp => by
    have hk2 : k < L.length := by omega
    obtain ⟨t7, t8, r⟩ := bd9 Γ L P W c ns pre h k hk2 s7 s8 (by omega)
    rw [h1 k (Nat.le_refl _), ← hG k hk2] at r
    obtain ⟨pre', hq⟩ : ∃ pre' : List Nat, pre' = (if G (k + 1) then pre ++ [k + 1] else pre) := ⟨_, rfl⟩
    rw [← hq] at r
    have c1 : ∀ j, j ≤ k + 1 → pre'.contains j = G j := by
      intro j hkj
      cases g : G (k + 1) with
      | false =>
        rw [hq, g, if_neg Bool.false_ne_true]
        rcases Nat.lt_or_ge k j with a | a
        · have : j = k + 1 := by omega
          rw [this, g]
          exact h2 (k + 1) (Nat.lt_succ_self _)
        · exact h1 j a
      | true =>
        rw [hq, g, if_pos rfl, cont_app]
        rcases Nat.lt_or_ge k j with a | a
        · have : j = k + 1 := by omega
          rw [this, g, beq_self_eq_true, Bool.or_true]
        · rw [h1 j a]
          have : (j == k + 1) = false := beq_false_of_ne (by omega)
          rw [this, Bool.or_false]
    have c2 : ∀ j, k + 1 < j → pre'.contains j = false := by
      intro j hj
      cases g : G (k + 1) with
      | false =>
        rw [hq, g, if_neg Bool.false_ne_true]
        exact h2 j (by omega)
      | true =>
        rw [hq, g, if_pos rfl, cont_app, h2 j (by omega)]
        exact beq_false_of_ne (by omega)
    have c3 : pre'.length + m < 100 := by
      rw [hq]
      split
      · rw [List.length_append]; simp; omega
      · omega
    obtain ⟨ms, u6, u7, u8, u9, u10, r2, hm⟩ := lp9 Γ L P W c ns h G hG m (k + 1) pre' (some (iT k)) t7 t8 (some (.str L[k].1)) (some (.str (if anyI L[k] then ANY else ONE))) (by omega) c1 c2 c3
    refine ⟨ms, u6, u7, u8, u9, u10, ?_, hm⟩
    have pu : Tg.put (.u [.v 6, .u [.v 9, .v 10]]) (.tup [.int k, itT L[k]]) [some P, some (.str [c]), some (numsT ns), some (.ref h.length), some (itsT L), some W, s6, s7, s8, s9, s10] = some [some P, some (.str [c]), some (numsT ns), some (.ref h.length), some (itsT L), some W, some (iT k), s7, s8, some (.str L[k].1), some (.str (if anyI L[k] then ANY else ONE))] := rfl
    rw [List.drop_eq_getElem_cons hk2, List.map_cons, enumT, forLoop]
    simp only [pu, r, R_ok]
    exact r2
/-- next_trace -/
theorem sp9 (n : Nat) (L : List Item) (w : Bool) (c : Nat) (ns : List Nat) (h : Hm) (hL : L.length < 50) (G : Nat → Bool)
    (hG : ∀ k (hk : k < L.length), G (k + 1) = ((L[k].1.contains c && (ns.contains (k + 1) && anyI L[k])) || ((L[k].1.contains c && (ns.contains k && !anyI L[k])) || (anyI L[k] && G k)))) (hn : G 0 = !w) :
    ∃ ms : List Nat, call Φ tf (n + 1) 9 [.tup [itsT L, .bl w], .str [c], numsT ns] h = .ok (numsT ms) h ∧ ∀ j, j ≤ L.length → ms.contains j = G j := by
  obtain ⟨pre, hpre⟩ : ∃ pre : List Nat, pre = if w then [] else [0] := ⟨_, rfl⟩
  have q1 : ∀ j, j ≤ 0 → pre.contains j = G j := by
    intro j a
    have : j = 0 := by omega
    rw [this, hn, hpre]
    cases w <;> rfl
  have q2 : ∀ j, 0 < j → pre.contains j = false := by
    intro j a
    rw [hpre]
    cases w
    · simp; omega
    · rfl
  have q3 : pre.length + L.length < 100 := by rw [hpre]; cases w <;> simp <;> omega
  obtain ⟨ms, t6, t7, t8, t9, t10, r, hm⟩ := lp9 ⟨call Φ tf n, tf⟩ L (.tup [itsT L, .bl w]) (.bl w) c ns h G hG L.length 0 pre none none none none none (Nat.zero_add _) q1 q2 q3
  refine ⟨ms, ?_, hm⟩
  rw [call_eq (d := ⟨3, 11, b9⟩) rfl rfl, b9]
  rw [ss_step (σ' := [some (.tup [itsT L, .bl w]), some (.str [c]), some (numsT ns), none, some (itsT L), some (.bl w), none, none, none, none, none]) (h' := h) (asgS (.tup [itsT L, .bl w]) rfl rfl)]
  rw [ss_step (σ' := [some (.tup [itsT L, .bl w]), some (.str [c]), some (numsT ns), some (.ref h.length), some (itsT L), some (.bl w), none, none, none, none, none]) (h' := h ++ [some (.lst (pre.map iT))]) (by
    rw [hpre]
    cases w
    · simp only [evSs, evS, evB, evE, evEs, evI, List.map_cons, List.map_nil, List.replicate, List.cons_append, List.nil_append, List.getElem?_cons_zero, List.getElem?_cons_succ, List.set_cons_zero, List.set_cons_succ, R_ok, R_exc, lk_str, lk_int, lk_bl, lk_non, lk_tup, lk_lst, tr_bl, Option.map_some, ofO_s, mkF, if_pos, if_neg Bool.false_ne_true, Bool.not_true, Bool.not_false, Tg.put, Tg.puts, Option.bind_some, mk]; rfl
    · simp only [evSs, evS, evB, evE, evEs, evI, List.map_cons, List.map_nil, List.replicate, List.cons_append, List.nil_append, List.getElem?_cons_zero, List.getElem?_cons_succ, List.set_cons_zero, List.set_cons_succ, R_ok, R_exc, lk_str, lk_int, lk_bl, lk_non, lk_tup, lk_lst, tr_bl, Option.map_some, ofO_s, mkF, if_pos, if_neg Bool.false_ne_true, Bool.not_true, Bool.not_false, Tg.put, Tg.puts, Option.bind_some, mk])]
  rw [ss_step (σ' := [some (.tup [itsT L, .bl w]), some (.str [c]), some (numsT ns), some (.ref h.length), some (itsT L), some (.bl w), t6, t7, t8, t9, t10]) (h' := h ++ [some (.lst (ms.map iT))]) (by
    rw [evS]
    exact r)]
  rw [ss_ret (t := numsT ms) (h' := h ++ [some (.lst (ms.map iT))]) (by simp only [evSs, evS, evB, evE, evEs, evI, List.map_cons, List.map_nil, List.replicate, List.cons_append, List.nil_append, List.getElem?_cons_zero, List.getElem?_cons_succ, List.set_cons_zero, List.set_cons_succ, R_ok, R_exc, lk_str, lk_int, lk_bl, lk_non, lk_tup, lk_lst, tr_bl, Option.map_some, ofO_s, mkF, if_pos, if_neg Bool.false_ne_true, Bool.not_true, Bool.not_false, Tg.put, Tg.puts, Option.bind_some, lkN, biO, numsT])]
  exact leave_app _ (und_nums _ _)
end K60
end
/-! part K60j -/
section
set_option autoImplicit false
set_option linter.all false
set_option maxRecDepth 10000
/-! K60j: begins_in, ends_in, fits, begins_with, ends_with; the law's own. -/
namespace K60
open Tw
theorem fitw_nil (w : Bool) : ∀ L : List Item, fitw w L [] = L.all anyI
  | [] => by rw [fitw]; cases w <;> rfl
  | (_, false) :: _ => by rw [fitw]; rfl
  | (_, true) :: L => by rw [fitw, fitw_nil w L]; rfl
theorem fitw_step (w : Bool) (L : List Item) (k : Nat) (hk : k < L.length) (c : Nat) (r : List Nat) :
    fitw w (L.drop k) (c :: r) = ((L[k].1.contains c && (fitw w (L.drop k) r && anyI L[k])) || ((L[k].1.contains c && (fitw w (L.drop (k + 1)) r && !anyI L[k])) || (anyI L[k] && fitw w (L.drop (k + 1)) (c :: r)))) := by
  rw [List.drop_eq_getElem_cons hk]
  obtain ⟨x, hx⟩ : ∃ x, x = L[k] := ⟨_, rfl⟩
  rw [← hx]
  obtain ⟨ls, b⟩ := x
  cases b with
  | false =>
    rw [fitw]
    show (_ && _) = ((_ && (_ && false)) || ((_ && (_ && true)) || (false && _)))
    simp
  | true =>
    rw [fitw]
    show (_ || (_ && _)) = ((_ && (_ && true)) || ((_ && (_ && false)) || (true && _)))
    simp [Bool.or_comm]
theorem revS (s : List Nat) : revO (.str s) = some (.str s.reverse) := rfl
theorem lp10 (n : Nat) (L : List Item) (w : Bool) (h : Hm) (hL : L.length < 50) (S : T) : ∀ (s r : List Nat) (ns : List Nat) (s3 : Option T), (∀ j, j ≤ L.length → ns.contains j = fitw w (L.drop j) r) →
    ∃ (ms : List Nat) (t3 : Option T), forLoop (.v 3) (fun σ h => evSs ⟨call Φ tf (n + 1), tf⟩ [.asg (.v 2) (.call 7 [.v 0, .v 3, .v 2])] σ h) (chT s) [some (.tup [itsT L, .bl w]), some S, some (numsT ns), s3] h = .ok (.next [some (.tup [itsT L, .bl w]), some S, some (numsT ms), t3]) h ∧ ∀ j, j ≤ L.length → ms.contains j = fitw w (L.drop j) (s.reverse ++ r)
  | [], r, ns, s3, hn => ⟨ns, s3, rfl, hn⟩
  | c :: s, r, ns, s3, hn => by
    obtain ⟨ms, e, hm⟩ := sp7 n L w c ns h hL (fun j => fitw w (L.drop j) (c :: r)) (fun k hk => by
      show fitw w (L.drop k) (c :: r) = _
      rw [hn k (Nat.le_of_lt hk), hn (k + 1) hk]
      exact fitw_step w L k hk c r) (by show fitw w (L.drop L.length) (c :: r) = _; rw [List.drop_length, fitw]; simp)
    obtain ⟨ms2, t3, e2, hm2⟩ := lp10 n L w h hL S s (c :: r) ms (some (.str [c])) hm
    refine ⟨ms2, t3, ?_, fun j hj => by rw [hm2 j hj]; simp⟩
    simp only [chT, List.map_cons, forLoop, Tg.put, List.set_cons_zero, List.set_cons_succ]
    simp only [evSs, evS, evE, evEs, List.getElem?_cons_zero, List.getElem?_cons_succ, R_ok, e, Tg.put, List.set_cons_zero, List.set_cons_succ, Option.map_some, ofO_s]
    exact e2
theorem getLen (L : List Item) (b : T) : ixO (.tup [itsT L, b]) (.int 0) = some (itsT L) := ixz _ _
/-- begins_in -/
theorem sp10 (n : Nat) (L : List Item) (w : Bool) (s : List Nat) (h : Hm) (hL : L.length < 50) : call Φ tf (n + 2) 10 [.tup [itsT L, .bl w], .str s] h = .ok (.bl (fitw w L s)) h := by
  obtain ⟨ns, e, hn⟩ := sp6 n L (.bl w) h hL
  obtain ⟨ms, t3, e2, hm⟩ := lp10 n L w h hL (.str s) s.reverse [] ns none (fun j hj => by
    rw [fitw_nil, Bool.eq_iff_iff, List.contains_iff_mem, hn j]
    exact ⟨fun q => q.2, fun q => ⟨hj, q⟩⟩)
  have r := hm 0 (Nat.zero_le _)
  rw [List.reverse_reverse, List.append_nil, List.drop_zero] at r
  rw [call_eq (d := ⟨2, 4, b10⟩) rfl rfl, b10]
  rw [ss_step (σ' := [some (.tup [itsT L, .bl w]), some (.str s), some (numsT ns), none]) (h' := h) (by simp only [evSs, evS, evB, evE, evEs, evI, List.map_cons, List.map_nil, List.replicate, List.cons_append, List.nil_append, List.getElem?_cons_zero, List.getElem?_cons_succ, List.set_cons_zero, List.set_cons_succ, R_ok, R_exc, lk_str, lk_int, lk_bl, lk_non, lk_tup, lk_lst, tr_bl, Option.map_some, ofO_s, mkF, if_pos, if_neg Bool.false_ne_true, Bool.not_true, Bool.not_false, Tg.put, Tg.puts, Option.bind_some, e])]
  rw [ss_step (σ' := [some (.tup [itsT L, .bl w]), some (.str s), some (numsT ms), t3]) (h' := h) (by
    rw [evS]
    simp only [evI, evE, List.getElem?_cons_succ, List.getElem?_cons_zero, R_ok, lk_str, revS, ofO_s, mkF, itemsO]
    exact e2)]
  have i0 : inO (.int 0) (numsT ms) = some (ms.contains 0) := inNt 0 ms
  rw [ss_ret (t := .bl (fitw w L s)) (h' := h) (by simp only [evSs, evS, evB, evE, evEs, evI, List.map_cons, List.map_nil, List.replicate, List.cons_append, List.nil_append, List.getElem?_cons_zero, List.getElem?_cons_succ, List.set_cons_zero, List.set_cons_succ, R_ok, R_exc, lk_str, lk_int, lk_bl, lk_non, lk_tup, lk_lst, tr_bl, Option.map_some, ofO_s, mkF, if_pos, if_neg Bool.false_ne_true, Bool.not_true, Bool.not_false, Tg.put, Tg.puts, Option.bind_some, lk_nums, cmO, i0, r])]
  exact cE0 h _ rfl
theorem take_rev_step (L : List Item) (k : Nat) (hk : k < L.length) : (L.take (k + 1)).reverse = L[k] :: (L.take k).reverse := by
  rw [List.take_succ_eq_append_getElem hk, List.reverse_append]; rfl
theorem fitw_stepR (w : Bool) (L : List Item) (k : Nat) (hk : k < L.length) (c : Nat) (r : List Nat) :
    fitw w (L.take (k + 1)).reverse (c :: r) = ((L[k].1.contains c && (fitw w (L.take (k + 1)).reverse r && anyI L[k])) || ((L[k].1.contains c && (fitw w (L.take k).reverse r && !anyI L[k])) || (anyI L[k] && fitw w (L.take k).reverse (c :: r)))) := by
  rw [take_rev_step L k hk]
  obtain ⟨x, hx⟩ : ∃ x, x = L[k] := ⟨_, rfl⟩
  rw [← hx]
  obtain ⟨ls, b⟩ := x
  cases b with
  | false =>
    rw [fitw]
    show (_ && _) = ((_ && (_ && false)) || ((_ && (_ && true)) || (false && _)))
    simp
  | true =>
    rw [fitw]
    show (_ || (_ && _)) = ((_ && (_ && true)) || ((_ && (_ && false)) || (true && _)))
    simp [Bool.or_comm]
theorem lp11 (n : Nat) (L : List Item) (w : Bool) (h : Hm) (hL : L.length < 50) (S : T) : ∀ (s r : List Nat) (ns : List Nat) (s3 : Option T), (∀ j, j ≤ L.length → ns.contains j = fitw w (L.take j).reverse r) →
    ∃ (ms : List Nat) (t3 : Option T), forLoop (.v 3) (fun σ h => evSs ⟨call Φ tf (n + 1), tf⟩ [.asg (.v 2) (.call 9 [.v 0, .v 3, .v 2])] σ h) (chT s) [some (.tup [itsT L, .bl w]), some S, some (numsT ns), s3] h = .ok (.next [some (.tup [itsT L, .bl w]), some S, some (numsT ms), t3]) h ∧ ∀ j, j ≤ L.length → ms.contains j = fitw w (L.take j).reverse (s.reverse ++ r)
  | [], r, ns, s3, hn => ⟨ns, s3, rfl, hn⟩
  | c :: s, r, ns, s3, hn => by
    obtain ⟨ms, e, hm⟩ := sp9 n L w c ns h hL (fun j => fitw w (L.take j).reverse (c :: r)) (fun k hk => by
      show fitw w (L.take (k + 1)).reverse (c :: r) = _
      rw [hn k (Nat.le_of_lt hk), hn (k + 1) hk]
      exact fitw_stepR w L k hk c r) (by show fitw w (L.take 0).reverse (c :: r) = _; rw [List.take_zero, List.reverse_nil, fitw]; simp)
    obtain ⟨ms2, t3, e2, hm2⟩ := lp11 n L w h hL S s (c :: r) ms (some (.str [c])) hm
    refine ⟨ms2, t3, ?_, fun j hj => by rw [hm2 j hj]; simp⟩
    simp only [chT, List.map_cons, forLoop, Tg.put, List.set_cons_zero, List.set_cons_succ]
    simp only [evSs, evS, evE, evEs, List.getElem?_cons_zero, List.getElem?_cons_succ, R_ok, e, Tg.put, List.set_cons_zero, List.set_cons_succ, Option.map_some, ofO_s]
    exact e2
/-- ends_in -/
theorem sp11 (n : Nat) (L : List Item) (w : Bool) (s : List Nat) (h : Hm) (hL : L.length < 50) : call Φ tf (n + 2) 11 [.tup [itsT L, .bl w], .str s] h = .ok (.bl (fitw w L.reverse s.reverse)) h := by
  obtain ⟨ns, e, hn⟩ := sp8 n L (.bl w) h hL
  obtain ⟨ms, t3, e2, hm⟩ := lp11 n L w h hL (.str s) s [] ns none (fun j hj => by
    rw [fitw_nil, Bool.eq_iff_iff, List.contains_iff_mem, hn j hj, List.all_reverse])
  have r := hm L.length (Nat.le_refl _)
  rw [List.append_nil, List.take_length] at r
  rw [call_eq (d := ⟨2, 4, b11⟩) rfl rfl, b11]
  rw [ss_step (σ' := [some (.tup [itsT L, .bl w]), some (.str s), some (numsT ns), none]) (h' := h) (by simp only [evSs, evS, evB, evE, evEs, evI, List.map_cons, List.map_nil, List.replicate, List.cons_append, List.nil_append, List.getElem?_cons_zero, List.getElem?_cons_succ, List.set_cons_zero, List.set_cons_succ, R_ok, R_exc, lk_str, lk_int, lk_bl, lk_non, lk_tup, lk_lst, tr_bl, Option.map_some, ofO_s, mkF, if_pos, if_neg Bool.false_ne_true, Bool.not_true, Bool.not_false, Tg.put, Tg.puts, Option.bind_some, e])]
  rw [ss_step (σ' := [some (.tup [itsT L, .bl w]), some (.str s), some (numsT ms), t3]) (h' := h) (by
    rw [evS]
    simp only [evI, evE, List.getElem?_cons_succ, List.getElem?_cons_zero, R_ok, lk_str, revS, ofO_s, mkF, itemsO]
    exact e2)]
  rw [ss_ret (t := .bl (fitw w L.reverse s.reverse)) (h' := h) (by simp only [evSs, evS, evB, evE, evEs, evI, List.map_cons, List.map_nil, List.replicate, List.cons_append, List.nil_append, List.getElem?_cons_zero, List.getElem?_cons_succ, List.set_cons_zero, List.set_cons_succ, R_ok, R_exc, lk_str, lk_int, lk_bl, lk_non, lk_tup, lk_lst, tr_bl, Option.map_some, ofO_s, mkF, if_pos, if_neg Bool.false_ne_true, Bool.not_true, Bool.not_false, Tg.put, Tg.puts, Option.bind_some, getLen, lk_its, lenIt, lk_nums, cmO, inNt, r])]
  exact cE0 h _ rfl
/-- a pattern's value -/
def patT (L : List Item) (w : Bool) : T := .tup [itsT L, .bl w]
def itOk (x : Item) : Bool := isIt (itT x)
theorem isP_pat (L : List Item) (w : Bool) (hL : L.length ≤ 3) (ho : L.all itOk = true) : isP (patT L w) = true := by
  have e : (L.map itT).all isIt = L.all itOk := by rw [List.all_map]; rfl
  simp [patT, itsT, isP, hL, e, ho]
/-- fits, begins_with, ends_with: of any value, then of patterns and texts -/
theorem sp13b (n : Nat) (v t : T) (hv : nr v = true) (h : Hm) (e : isP v = false) : call Φ tf (n + 5) 13 [v, t] h = .exc 2 [] h := by
  have e0 := sp12 n v hv h
  rw [e] at e0
  rw [call_eq (d := ⟨2, 2, b13⟩) rfl rfl, b13]
  simp only [evSs, evS, evB, evE, evEs, evI, List.map_cons, List.map_nil, List.replicate, List.cons_append, List.nil_append, List.getElem?_cons_zero, List.getElem?_cons_succ, List.set_cons_zero, List.set_cons_succ, R_ok, R_exc, lk_str, lk_int, lk_bl, lk_non, lk_tup, lk_lst, tr_bl, Option.map_some, ofO_s, mkF, if_pos, if_neg Bool.false_ne_true, Bool.not_true, Bool.not_false, Tg.put, Tg.puts, Option.bind_some, e0]
  exact cX0 h _
theorem sp14b (n : Nat) (v t : T) (hv : nr v = true) (h : Hm) (e : isP v = false) : call Φ tf (n + 5) 14 [v, t] h = .exc 2 [] h := by
  have e0 := sp12 n v hv h
  rw [e] at e0
  rw [call_eq (d := ⟨2, 2, b14⟩) rfl rfl, b14]
  simp only [evSs, evS, evB, evE, evEs, evI, List.map_cons, List.map_nil, List.replicate, List.cons_append, List.nil_append, List.getElem?_cons_zero, List.getElem?_cons_succ, List.set_cons_zero, List.set_cons_succ, R_ok, R_exc, lk_str, lk_int, lk_bl, lk_non, lk_tup, lk_lst, tr_bl, Option.map_some, ofO_s, mkF, if_pos, if_neg Bool.false_ne_true, Bool.not_true, Bool.not_false, Tg.put, Tg.puts, Option.bind_some, e0]
  exact cX0 h _
theorem sp15b (n : Nat) (v t : T) (hv : nr v = true) (h : Hm) (e : isP v = false) : call Φ tf (n + 5) 15 [v, t] h = .exc 2 [] h := by
  have e0 := sp12 n v hv h
  rw [e] at e0
  rw [call_eq (d := ⟨2, 2, b15⟩) rfl rfl, b15]
  simp only [evSs, evS, evB, evE, evEs, evI, List.map_cons, List.map_nil, List.replicate, List.cons_append, List.nil_append, List.getElem?_cons_zero, List.getElem?_cons_succ, List.set_cons_zero, List.set_cons_succ, R_ok, R_exc, lk_str, lk_int, lk_bl, lk_non, lk_tup, lk_lst, tr_bl, Option.map_some, ofO_s, mkF, if_pos, if_neg Bool.false_ne_true, Bool.not_true, Bool.not_false, Tg.put, Tg.puts, Option.bind_some, e0]
  exact cX0 h _
theorem sp13t (n : Nat) (v t : T) (hv : nr v = true) (ht : nr t = true) (h : Hm) (e : isP v = true) (f : isTx t = false) : call Φ tf (n + 5) 13 [v, t] h = .exc 1 [] h := by
  have e0 := sp12 n v hv h
  have e1 := sp3 (n + 1) t ht h
  rw [e] at e0
  rw [f] at e1
  rw [call_eq (d := ⟨2, 2, b13⟩) rfl rfl, b13]
  simp only [evSs, evS, evB, evE, evEs, evI, List.map_cons, List.map_nil, List.replicate, List.cons_append, List.nil_append, List.getElem?_cons_zero, List.getElem?_cons_succ, List.set_cons_zero, List.set_cons_succ, R_ok, R_exc, lk_str, lk_int, lk_bl, lk_non, lk_tup, lk_lst, tr_bl, Option.map_some, ofO_s, mkF, if_pos, if_neg Bool.false_ne_true, Bool.not_true, Bool.not_false, Tg.put, Tg.puts, Option.bind_some, e0, e1]
  exact cX0 h _
theorem sp14t (n : Nat) (v t : T) (hv : nr v = true) (ht : nr t = true) (h : Hm) (e : isP v = true) (f : isTx t = false) : call Φ tf (n + 5) 14 [v, t] h = .exc 1 [] h := by
  have e0 := sp12 n v hv h
  have e1 := sp3 (n + 1) t ht h
  rw [e] at e0
  rw [f] at e1
  rw [call_eq (d := ⟨2, 2, b14⟩) rfl rfl, b14]
  simp only [evSs, evS, evB, evE, evEs, evI, List.map_cons, List.map_nil, List.replicate, List.cons_append, List.nil_append, List.getElem?_cons_zero, List.getElem?_cons_succ, List.set_cons_zero, List.set_cons_succ, R_ok, R_exc, lk_str, lk_int, lk_bl, lk_non, lk_tup, lk_lst, tr_bl, Option.map_some, ofO_s, mkF, if_pos, if_neg Bool.false_ne_true, Bool.not_true, Bool.not_false, Tg.put, Tg.puts, Option.bind_some, e0, e1]
  exact cX0 h _
theorem sp15t (n : Nat) (v t : T) (hv : nr v = true) (ht : nr t = true) (h : Hm) (e : isP v = true) (f : isTx t = false) : call Φ tf (n + 5) 15 [v, t] h = .exc 1 [] h := by
  have e0 := sp12 n v hv h
  have e1 := sp3 (n + 1) t ht h
  rw [e] at e0
  rw [f] at e1
  rw [call_eq (d := ⟨2, 2, b15⟩) rfl rfl, b15]
  simp only [evSs, evS, evB, evE, evEs, evI, List.map_cons, List.map_nil, List.replicate, List.cons_append, List.nil_append, List.getElem?_cons_zero, List.getElem?_cons_succ, List.set_cons_zero, List.set_cons_succ, R_ok, R_exc, lk_str, lk_int, lk_bl, lk_non, lk_tup, lk_lst, tr_bl, Option.map_some, ofO_s, mkF, if_pos, if_neg Bool.false_ne_true, Bool.not_true, Bool.not_false, Tg.put, Tg.puts, Option.bind_some, e0, e1]
  exact cX0 h _
theorem sp13 (n : Nat) (L : List Item) (w : Bool) (s : List Nat) (h : Hm) (hv : nr (patT L w) = true) (hs : nr (.str s) = true) (e : isP (patT L w) = true) (f : isTx (.str s) = true) (hL : L.length < 50) : call Φ tf (n + 5) 13 [patT L w, .str s] h = .ok (.bl (fitw true L s)) h := by
  have e0 := sp12 n _ hv h
  have e1 := sp3 (n + 1) _ hs h
  have e2 := sp10 (n + 2) L true s h hL
  rw [e] at e0
  rw [f] at e1
  rw [call_eq (d := ⟨2, 2, b13⟩) rfl rfl, b13]
  simp only [evSs, evS, evB, evE, evEs, evI, List.map_cons, List.map_nil, List.replicate, List.cons_append, List.nil_append, List.getElem?_cons_zero, List.getElem?_cons_succ, List.set_cons_zero, List.set_cons_succ, R_ok, R_exc, lk_str, lk_int, lk_bl, lk_non, lk_tup, lk_lst, tr_bl, Option.map_some, ofO_s, mkF, if_pos, if_neg Bool.false_ne_true, Bool.not_true, Bool.not_false, Tg.put, Tg.puts, Option.bind_some, e0, e1]
  simp only [patT, lk_tup, getLen, ofO_s, R_ok, e2]
  exact cE0 h _ rfl
theorem sp14 (n : Nat) (L : List Item) (w : Bool) (s : List Nat) (h : Hm) (hv : nr (patT L w) = true) (hs : nr (.str s) = true) (e : isP (patT L w) = true) (f : isTx (.str s) = true) (hL : L.length < 50) : call Φ tf (n + 5) 14 [patT L w, .str s] h = .ok (.bl (fitw w L s)) h := by
  have e0 := sp12 n _ hv h
  have e1 := sp3 (n + 1) _ hs h
  have e2 := sp10 (n + 2) L w s h hL
  rw [e] at e0
  rw [f] at e1
  rw [call_eq (d := ⟨2, 2, b14⟩) rfl rfl, b14]
  simp only [evSs, evS, evB, evE, evEs, evI, List.map_cons, List.map_nil, List.replicate, List.cons_append, List.nil_append, List.getElem?_cons_zero, List.getElem?_cons_succ, List.set_cons_zero, List.set_cons_succ, R_ok, R_exc, lk_str, lk_int, lk_bl, lk_non, lk_tup, lk_lst, tr_bl, Option.map_some, ofO_s, mkF, if_pos, if_neg Bool.false_ne_true, Bool.not_true, Bool.not_false, Tg.put, Tg.puts, Option.bind_some, e0, e1]
  simp only [patT, R_ok, e2]
  exact cE0 h _ rfl
theorem sp15 (n : Nat) (L : List Item) (w : Bool) (s : List Nat) (h : Hm) (hv : nr (patT L w) = true) (hs : nr (.str s) = true) (e : isP (patT L w) = true) (f : isTx (.str s) = true) (hL : L.length < 50) : call Φ tf (n + 5) 15 [patT L w, .str s] h = .ok (.bl (fitw w L.reverse s.reverse)) h := by
  have e0 := sp12 n _ hv h
  have e1 := sp3 (n + 1) _ hs h
  have e2 := sp11 (n + 2) L w s h hL
  rw [e] at e0
  rw [f] at e1
  rw [call_eq (d := ⟨2, 2, b15⟩) rfl rfl, b15]
  simp only [evSs, evS, evB, evE, evEs, evI, List.map_cons, List.map_nil, List.replicate, List.cons_append, List.nil_append, List.getElem?_cons_zero, List.getElem?_cons_succ, List.set_cons_zero, List.set_cons_succ, R_ok, R_exc, lk_str, lk_int, lk_bl, lk_non, lk_tup, lk_lst, tr_bl, Option.map_some, ofO_s, mkF, if_pos, if_neg Bool.false_ne_true, Bool.not_true, Bool.not_false, Tg.put, Tg.puts, Option.bind_some, e0, e1]
  simp only [patT, R_ok, e2]
  exact cE0 h _ rfl
end K60
end
/-! part K60k -/
section
set_option autoImplicit false
set_option linter.all false
set_option maxRecDepth 10000
/-! K60k: the law's own begins and ends, judged; what is drawn. -/
namespace K60
open Tw
theorem steps_r : ∀ (n k : Nat), steps (k : Int) 1 n = (List.range' k n).map iT
  | 0, _ => rfl
  | n + 1, k => by
    have e : (k : Int) + 1 = ((k + 1 : Nat) : Int) := by omega
    rw [steps, e, steps_r n (k + 1)]
    rfl
theorem rng1 (n : Nat) (h : n < lim) : rngO [.int n] = some ((List.range' 0 n).map iT) := by
  have e : -(lim : Int) ≤ n ∧ (n : Int) ≤ lim := by omega
  have e2 := steps_r n 0
  simp only [rngO, if_pos e, Int.toNat_natCast]
  rw [← e2]
  rfl
theorem eq_nil (l : List Nat) : eqO (.lst (l.map iT)) (.lst []) = some l.isEmpty := by
  have p : T.pl deepest (.lst (l.map iT)) = true := pls_num 59 l
  have q : T.pl deepest (.lst []) = true := rfl
  simp only [eqO, p, q, Bool.and_self, if_pos]
  cases l <;> rfl
theorem cutT (s : List Nat) (k : Nat) (hk : k ≤ s.length) : cutL s none (some (k : Int)) = s.take k := by
  have e : ¬ (k : Int) < 0 := by omega
  simp only [cutL, cutB, if_neg e, Int.toNat_natCast, Nat.min_eq_left hk, List.drop_zero, Nat.sub_zero]
theorem cutD (s : List Nat) (k : Nat) (hk : k ≤ s.length) : cutL s (some (k : Int)) none = s.drop k := by
  have e : ¬ (k : Int) < 0 := by omega
  simp only [cutL, cutB, if_neg e, Int.toNat_natCast, Nat.min_eq_left hk]
  exact List.take_of_length_le (by rw [List.length_drop]; exact Nat.le_refl _)
theorem cmap (p : Nat → Bool) (l : List Nat) : ((l.map iT).filterMap fun x => match x with | .int i => if p i.toNat then some (.int i) else none | _ => none) = (l.filter p).map iT := by
  induction l with
  | nil => rfl
  | cons a l ih =>
    rw [List.map_cons, List.filterMap_cons]
    simp only [iT, Int.toNat_natCast]
    by_cases q : p a = true
    · rw [List.filter_cons_of_pos q, List.map_cons, if_pos q]; exact congrArg (List.cons _) ih
    · rw [List.filter_cons_of_neg q, if_neg q]; exact ih
/-- a row of sizes, those that a test lets -/
theorem sizes (p : Nat → Bool) (s : List Nat) : (!((List.range' 0 (s.length + 1)).filter p).isEmpty) = true ↔ ∃ n, n < s.length + 1 ∧ p n = true := by
  rw [Bool.not_eq_true', List.isEmpty_eq_false_iff_exists_mem]
  constructor
  · rintro ⟨x, hx⟩
    rw [List.mem_filter, List.mem_range'] at hx
    obtain ⟨⟨i, hi, rfl⟩, hp⟩ := hx
    exact ⟨0 + 1 * i, by omega, hp⟩
  · rintro ⟨n, hn, hp⟩
    exact ⟨n, List.mem_filter.mpr ⟨List.mem_range'.mpr ⟨n, hn, by omega⟩, hp⟩⟩
theorem ixP1 (L : List Item) (w : Bool) : ixO (patT L w) (.int 1) = some (.bl w) := ix1 _ _ []
theorem ixP0 (L : List Item) (w : Bool) : ixO (patT L w) (.int 0) = some (itsT L) := ixz _ _
theorem lk_pat (h : Hm) (L : List Item) (w : Bool) : look h (patT L w) = patT L w := rfl
theorem lenS (s : List Nat) : biO .len [.str s] = some (.int s.length) := rfl
theorem fitT (L : List Item) (s : List Nat) : fitw true L s = fit L s := fitw_true _ L s (Nat.lt_succ_self _)
theorem ltlim {n : Nat} (h : n < 2000) : n < lim := by unfold lim; omega
theorem rngS (s : List Nat) (h : s.length < 1000) : rngO [.int ((s.length : Int) + 1)] = some ((List.range' 0 (s.length + 1)).map iT) := by
  have e : ((s.length : Int) + 1) = ((s.length + 1 : Nat) : Int) := by omega
  rw [e]
  exact rng1 _ (ltlim (by omega))
theorem i3 (Γ : Env) (P : T) (s : List Nat) (hs : s.length < 1000) (σ : Sl) (h : Hm) : evI Γ (.range [.bin false .add (.bi false .len [.v 1]) (.c (.int 1))]) (some P :: some (.str s) :: σ) h = .ok ((List.range' 0 (s.length + 1)).map iT) h := by
  have e : evEs Γ [.bin false .add (.bi false .len [.v 1]) (.c (.int 1))] (some P :: some (.str s) :: σ) h = .ok [.int ((s.length : Int) + 1)] h := rfl
  rw [evI, e, R_ok, rngS s hs, ofO_s]
theorem sp23 (N : Nat) (L : List Item) (w : Bool) (s : List Nat) (h : Hm) (hN : L.length + s.length < N) (hs : s.length < 1000) : call Φ tf (N + 1) 23 [patT L w, .str s] h = .ok (.bl (fitw w L s)) h := by
  rw [call_eq (d := ⟨2, 3, b23⟩) rfl rfl, b23]
  cases w with
  | true =>
    rw [ss_ret (t := .bl (fitw true L s)) (h' := h) (by simp only [evSs, evS, evB, evE, evEs, evI, List.map_cons, List.map_nil, List.replicate, List.cons_append, List.nil_append, List.getElem?_cons_zero, List.getElem?_cons_succ, List.set_cons_zero, List.set_cons_succ, R_ok, R_exc, lk_str, lk_int, lk_bl, lk_non, lk_tup, lk_lst, tr_bl, Option.map_some, ofO_s, mkF, if_pos, if_neg Bool.false_ne_true, Bool.not_true, Bool.not_false, Tg.put, Tg.puts, Option.bind_some, lk_pat, ixP0, ixP1, lk_its, sp22 N L s h hN, fitT])]
    exact cE0 h _ rfl
  | false =>
    have e : ∀ h, evE ⟨call Φ tf N, tf⟩ (.lc false (.v 2) (.range [.bin false .add (.bi false .len [.v 1]) (.c (.int 1))]) [.call 22 [.ix (.v 0) (.c (.int 0)), .sl false (.v 1) [] [.v 2]]] (.v 2)) [some (patT L false), some (.str s), none] h = .ok (.lst (((List.range' 0 (s.length + 1)).map iT).filterMap fun x => match x with | .int i => if fit L (s.take i.toNat) then some (.int i) else none | _ => none)) (h ++ [none]) := fun h => by
      refine ev_lcp _ (i3 _ _ s hs _ h) (fun x hx h' => ?_) (by rw [List.length_map, List.length_range']; exact ltlim (by omega))
      obtain ⟨k, hk, rfl⟩ := List.mem_map.mp hx
      rw [List.mem_range'] at hk
      obtain ⟨i, hi, rfl⟩ := hk
      rw [show 0 + 1 * i = i by omega]
      have e22 := sp22 N L (s.take i) h' (by rw [List.length_take]; omega)
      have e0 : evBs ⟨call Φ tf N, tf⟩ [.call 22 [.ix (.v 0) (.c (.int 0)), .sl false (.v 1) [] [.v 2]]] [some (patT L false), some (.str s), some (iT i)] h' = .ok (fit L (s.take i)) h' := by
        simp only [evBs, evSs, evS, evB, evE, evEs, evI, List.map_cons, List.map_nil, List.replicate, List.cons_append, List.nil_append, List.getElem?_cons_zero, List.getElem?_cons_succ, List.set_cons_zero, List.set_cons_succ, R_ok, R_exc, lk_str, lk_int, lk_bl, lk_non, lk_tup, lk_lst, tr_bl, Option.map_some, ofO_s, mkF, if_pos, if_neg Bool.false_ne_true, Bool.not_true, Bool.not_false, Tg.put, Tg.puts, Option.bind_some, lk_pat, ixP0, lk_its, iT, optI, cutO, cutT s i (by omega), e22]
        cases fit L (s.take i) <;> rfl
      have pu : Tg.put (.v 2) (iT i) [some (patT L false), some (.str s), none] = some [some (patT L false), some (.str s), some (iT i)] := rfl
      simp only [lcGo, pu, e0, R_ok]
      show _ = R.ok (if fit L (s.take (i : Int).toNat) then _ else _) _
      rw [Int.toNat_natCast]
      cases fit L (s.take i) <;> rfl
    have e2 := cmap (fun i => fit L (s.take i)) (List.range' 0 (s.length + 1))
    have e3 : (!((List.range' 0 (s.length + 1)).filter fun i => fit L (s.take i)).isEmpty) = fitw false L s := by
      rw [Bool.eq_iff_iff, sizes (fun i => fit L (s.take i)) s, fitw_iff]
    rw [ss_step (σ' := [some (patT L false), some (.str s), none]) (h' := h) (by simp only [evSs, evS, evB, evE, evEs, evI, List.map_cons, List.map_nil, List.replicate, List.cons_append, List.nil_append, List.getElem?_cons_zero, List.getElem?_cons_succ, List.set_cons_zero, List.set_cons_succ, R_ok, R_exc, lk_str, lk_int, lk_bl, lk_non, lk_tup, lk_lst, tr_bl, Option.map_some, ofO_s, mkF, if_pos, if_neg Bool.false_ne_true, Bool.not_true, Bool.not_false, Tg.put, Tg.puts, Option.bind_some, lk_pat, ixP1])]
    rw [ss_ret (t := .bl (fitw false L s)) (h' := h ++ [none]) (by
      simp only [evS, evE, ↓e, R_ok]
      simp only [evEs, R_ok, mkF, e2, lk_lst, cmO, eq_nil, Option.map_some, e3, ofO_s])]
    exact cE h _ _ rfl
theorem sp24 (N : Nat) (L : List Item) (w : Bool) (s : List Nat) (h : Hm) (hN : L.length + s.length < N) (hs : s.length < 1000) : call Φ tf (N + 1) 24 [patT L w, .str s] h = .ok (.bl (fitw w L.reverse s.reverse)) h := by
  rw [call_eq (d := ⟨2, 3, b24⟩) rfl rfl, b24]
  cases w with
  | true =>
    rw [ss_ret (t := .bl (fitw true L.reverse s.reverse)) (h' := h) (by simp only [evSs, evS, evB, evE, evEs, evI, List.map_cons, List.map_nil, List.replicate, List.cons_append, List.nil_append, List.getElem?_cons_zero, List.getElem?_cons_succ, List.set_cons_zero, List.set_cons_succ, R_ok, R_exc, lk_str, lk_int, lk_bl, lk_non, lk_tup, lk_lst, tr_bl, Option.map_some, ofO_s, mkF, if_pos, if_neg Bool.false_ne_true, Bool.not_true, Bool.not_false, Tg.put, Tg.puts, Option.bind_some, lk_pat, ixP0, ixP1, lk_its, sp22 N L s h hN, fitT, fit_rev])]
    exact cE0 h _ rfl
  | false =>
    have e : ∀ h, evE ⟨call Φ tf N, tf⟩ (.lc false (.v 2) (.range [.bin false .add (.bi false .len [.v 1]) (.c (.int 1))]) [.call 22 [.ix (.v 0) (.c (.int 0)), .sl false (.v 1) [.v 2] []]] (.v 2)) [some (patT L false), some (.str s), none] h = .ok (.lst (((List.range' 0 (s.length + 1)).map iT).filterMap fun x => match x with | .int i => if fit L (s.drop i.toNat) then some (.int i) else none | _ => none)) (h ++ [none]) := fun h => by
      refine ev_lcp _ (i3 _ _ s hs _ h) (fun x hx h' => ?_) (by rw [List.length_map, List.length_range']; exact ltlim (by omega))
      obtain ⟨k, hk, rfl⟩ := List.mem_map.mp hx
      rw [List.mem_range'] at hk
      obtain ⟨i, hi, rfl⟩ := hk
      rw [show 0 + 1 * i = i by omega]
      have e22 := sp22 N L (s.drop i) h' (by rw [List.length_drop]; omega)
      have e0 : evBs ⟨call Φ tf N, tf⟩ [.call 22 [.ix (.v 0) (.c (.int 0)), .sl false (.v 1) [.v 2] []]] [some (patT L false), some (.str s), some (iT i)] h' = .ok (fit L (s.drop i)) h' := by
        simp only [evBs, evSs, evS, evB, evE, evEs, evI, List.map_cons, List.map_nil, List.replicate, List.cons_append, List.nil_append, List.getElem?_cons_zero, List.getElem?_cons_succ, List.set_cons_zero, List.set_cons_succ, R_ok, R_exc, lk_str, lk_int, lk_bl, lk_non, lk_tup, lk_lst, tr_bl, Option.map_some, ofO_s, mkF, if_pos, if_neg Bool.false_ne_true, Bool.not_true, Bool.not_false, Tg.put, Tg.puts, Option.bind_some, lk_pat, ixP0, lk_its, iT, optI, cutO, cutD s i (by omega), e22]
        cases fit L (s.drop i) <;> rfl
      have pu : Tg.put (.v 2) (iT i) [some (patT L false), some (.str s), none] = some [some (patT L false), some (.str s), some (iT i)] := rfl
      simp only [lcGo, pu, e0, R_ok]
      show _ = R.ok (if fit L (s.drop (i : Int).toNat) then _ else _) _
      rw [Int.toNat_natCast]
      cases fit L (s.drop i) <;> rfl
    have e2 := cmap (fun i => fit L (s.drop i)) (List.range' 0 (s.length + 1))
    have e3 : (!((List.range' 0 (s.length + 1)).filter fun i => fit L (s.drop i)).isEmpty) = fitw false L.reverse s.reverse := by
      rw [Bool.eq_iff_iff, sizes (fun i => fit L (s.drop i)) s, fitw_rev_iff]
    rw [ss_step (σ' := [some (patT L false), some (.str s), none]) (h' := h) (by simp only [evSs, evS, evB, evE, evEs, evI, List.map_cons, List.map_nil, List.replicate, List.cons_append, List.nil_append, List.getElem?_cons_zero, List.getElem?_cons_succ, List.set_cons_zero, List.set_cons_succ, R_ok, R_exc, lk_str, lk_int, lk_bl, lk_non, lk_tup, lk_lst, tr_bl, Option.map_some, ofO_s, mkF, if_pos, if_neg Bool.false_ne_true, Bool.not_true, Bool.not_false, Tg.put, Tg.puts, Option.bind_some, lk_pat, ixP1])]
    rw [ss_ret (t := .bl (fitw false L.reverse s.reverse)) (h' := h ++ [none]) (by
      simp only [evS, evE, ↓e, R_ok]
      simp only [evEs, R_ok, mkF, e2, lk_lst, cmO, eq_nil, Option.map_some, e3, ofO_s])]
    exact cE h _ _ rfl
theorem rep3 (a b c : Bool) : biO .repr [.lst [.bl a, .bl b, .bl c]] = some (.str (reprBls [a, b, c])) := rfl
theorem eqss (s : List Nat) : eqO (.str s) (.str s) = some true := by rw [eqs, beq_self_eq_true]
/-- _law_judged_right -/
theorem sp27 (N : Nat) (L : List Item) (w : Bool) (s : List Nat) (h : Hm) (hv : nr (patT L w) = true) (hs : nr (.str s) = true) (e : isP (patT L w) = true) (f : isTx (.str s) = true) (hL : L.length < 50) (hN : L.length + s.length < N) (hs2 : s.length < 1000) (hN2 : 20 < N) :
    call Φ tf (N + 2) 27 [patT L w, .str s] h = .ok (.bl true) h := by
  obtain ⟨m, rfl⟩ : ∃ m, N = m + 4 := ⟨N - 4, by omega⟩
  have e13 := sp13 m L w s h hv hs e f hL
  have e14 := sp14 m L w s h hv hs e f hL
  have e15 := sp15 m L w s h hv hs e f hL
  have e22 := sp22 (m + 5) L s h (by omega)
  have e23 := sp23 (m + 4) L w s h hN hs2
  have e24 := sp24 (m + 4) L w s h hN hs2
  rw [call_eq (d := ⟨2, 4, b27⟩) rfl rfl, b27]
  rw [ss_step (σ' := [some (patT L w), some (.str s), some (.lst [.bl (fitw true L s), .bl (fitw w L s), .bl (fitw w L.reverse s.reverse)]), none]) (h' := h) (by simp only [evSs, evS, evB, evE, evEs, evI, List.map_cons, List.map_nil, List.replicate, List.cons_append, List.nil_append, List.getElem?_cons_zero, List.getElem?_cons_succ, List.set_cons_zero, List.set_cons_succ, R_ok, R_exc, lk_str, lk_int, lk_bl, lk_non, lk_tup, lk_lst, tr_bl, Option.map_some, ofO_s, mkF, if_pos, if_neg Bool.false_ne_true, Bool.not_true, Bool.not_false, Tg.put, Tg.puts, Option.bind_some, e13, e14, e15])]
  rw [ss_step (σ' := [some (patT L w), some (.str s), some (.lst [.bl (fitw true L s), .bl (fitw w L s), .bl (fitw w L.reverse s.reverse)]), some (.lst [.bl (fitw true L s), .bl (fitw w L s), .bl (fitw w L.reverse s.reverse)])]) (h' := h) (by simp only [evSs, evS, evB, evE, evEs, evI, List.map_cons, List.map_nil, List.replicate, List.cons_append, List.nil_append, List.getElem?_cons_zero, List.getElem?_cons_succ, List.set_cons_zero, List.set_cons_succ, R_ok, R_exc, lk_str, lk_int, lk_bl, lk_non, lk_tup, lk_lst, tr_bl, Option.map_some, ofO_s, mkF, if_pos, if_neg Bool.false_ne_true, Bool.not_true, Bool.not_false, Tg.put, Tg.puts, Option.bind_some, lk_pat, ixP0, e22, e23, e24, fitT])]
  rw [ss_ret (t := .bl true) (h' := h) (by simp only [evSs, evS, evB, evE, evEs, evI, List.map_cons, List.map_nil, List.replicate, List.cons_append, List.nil_append, List.getElem?_cons_zero, List.getElem?_cons_succ, List.set_cons_zero, List.set_cons_succ, R_ok, R_exc, lk_str, lk_int, lk_bl, lk_non, lk_tup, lk_lst, tr_bl, Option.map_some, ofO_s, mkF, if_pos, if_neg Bool.false_ne_true, Bool.not_true, Bool.not_false, Tg.put, Tg.puts, Option.bind_some, rep3, cmO, eqss])]
  exact cE0 h _ rfl
end K60
end
/-! part K60l -/
section
set_option autoImplicit false
set_option linter.all false
set_option maxRecDepth 10000
/-! K60l: what is drawn: words, items, patterns, near texts. -/
namespace K60
open Tw
/-- h with another bag at j -/
def sb3 (h : Hm) (j : Nat) (a b c : Int) : Hm := h.set j (bag a b c)
theorem app_at {h : Hm} {j : Nat} {o : Option MO} (e : h[j]? = some o) (l : Hm) : (h ++ l)[j]? = some o := by
  have := (List.getElem?_eq_some_iff.mp e).1
  rw [List.getElem?_append_left this, e]
theorem set_app {h : Hm} {j : Nat} {o : Option MO} (e : h[j]? = some o) (l : Hm) (x : Option MO) : (h ++ l).set j x = h.set j x ++ l := List.set_append_left _ _ (List.getElem?_eq_some_iff.mp e).1
theorem set_set (h : Hm) (j : Nat) (x y : Option MO) : (h.set j x).set j y = h.set j y := List.set_set ..
theorem set_same {h : Hm} {j : Nat} {o : Option MO} (e : h[j]? = some o) : h.set j o = h := by
  obtain ⟨hl, he⟩ := List.getElem?_eq_some_iff.mp e
  rw [← he, List.set_getElem_self]
/-- a comprehension whose turns may change the bag; an invariant over what is left and what is made -/
theorem lc_bag {go : T → Sl → Hm → R (Option T)} {σ : Sl} {j d : Nat} (Inv : List T → List T → Prop) :
    ∀ (xs acc : List T) (h : Hm) (a b c : Int), h.length = d → h[j]? = some (bag a b c) →
    (∀ x xs acc h a b c, Inv (x :: xs) acc → h.length = d → h[j]? = some (bag a b c) → ∀ l, ∃ (o : Option T) (a' b' c' : Int), go x σ (h ++ [some (.lst l)]) = .ok o (h.set j (bag a' b' c') ++ [some (.lst l)]) ∧ Inv xs (acc ++ o.toList)) →
    Inv xs acc → acc.length + xs.length < lim →
    ∃ (out : List T) (a' b' c' : Int), lcLoop go σ d xs (h ++ [some (.lst acc)]) = .ok () (h.set j (bag a' b' c') ++ [some (.lst out)]) ∧ Inv [] out
  | [], acc, h, a, b, c, hd, e, _, i, _ => ⟨acc, a, b, c, by
      rw [lcLoop, set_same e], i⟩
  | x :: xs, acc, h, a, b, c, hd, e, hg, i, hl => by
    obtain ⟨o, a1, b1, c1, r, i1⟩ := hg x xs acc h a b c i hd e acc
    have e1 : (h.set j (bag a1 b1 c1))[j]? = some (bag a1 b1 c1) := set_bag e _
    have hd1 : (h.set j (bag a1 b1 c1)).length = d := by rw [List.length_set]; exact hd
    simp only [List.length_cons] at hl
    cases o with
    | none =>
      obtain ⟨out, a2, b2, c2, r2, i2⟩ := lc_bag Inv xs acc _ a1 b1 c1 hd1 e1 hg (by simpa using i1) (by omega)
      refine ⟨out, a2, b2, c2, ?_, i2⟩
      rw [set_set] at r2
      rw [lcLoop, r]
      exact r2
    | some y =>
      obtain ⟨out, a2, b2, c2, r2, i2⟩ := lc_bag Inv xs (acc ++ [y]) _ a1 b1 c1 hd1 e1 hg (by simpa using i1) (by simp; omega)
      refine ⟨out, a2, b2, c2, ?_, i2⟩
      rw [set_set] at r2
      rw [lcLoop, r]
      have z : (h.set j (bag a1 b1 c1) ++ [some (MO.lst acc)])[d]? = some (some (.lst acc)) := by
        rw [List.getElem?_append_right (by omega), hd1, Nat.sub_self]; rfl
      have z2 : (h.set j (bag a1 b1 c1) ++ [some (MO.lst acc)]).set d (some (.lst (acc ++ [y]))) = h.set j (bag a1 b1 c1) ++ [some (.lst (acc ++ [y]))] := by
        rw [List.set_append_right _ _ (by omega), hd1, Nat.sub_self]; rfl
      simp only [z, if_pos (show acc.length < lim by omega), z2]
      exact r2
/-- the comprehension's value -/
theorem ev_lcb {Γ : Env} {g : Tg} {it : It} {cs : List Ex} {e : Ex} {σ : Sl} {h h1 : Hm} {j : Nat} {a b c : Int} {xs : List T} (Inv : List T → List T → Prop) (hi : evI Γ it σ h = .ok xs h1) (hb : h1[j]? = some (bag a b c)) (hd : h1.length = h.length)
    (hg : ∀ x xs acc h' a b c, Inv (x :: xs) acc → h'.length = h.length → h'[j]? = some (bag a b c) → ∀ l, ∃ (o : Option T) (a' b' c' : Int), lcGo g (fun σ h => evBs Γ cs σ h) (fun σ h => evE Γ e σ h) x σ (h' ++ [some (.lst l)]) = .ok o (h'.set j (bag a' b' c') ++ [some (.lst l)]) ∧ Inv xs (acc ++ o.toList))
    (h0 : Inv xs []) (hl : xs.length < lim) :
    ∃ (out : List T) (a' b' c' : Int), evE Γ (.lc false g it cs e) σ h = .ok (.lst out) (h1.set j (bag a' b' c') ++ [none]) ∧ Inv [] out := by
  obtain ⟨out, a', b', c', r, i⟩ := lc_bag (go := lcGo g (fun σ h => evBs Γ cs σ h) (fun σ h => evE Γ e σ h)) (σ := σ) (j := j) (d := h1.length) Inv xs [] h1 a b c rfl hb (fun x xs acc h' a b c i q => hg x xs acc h' a b c i (q.trans hd)) h0 (by simpa using hl)
  refine ⟨out, a', b', c', ?_, i⟩
  rw [evE, hi]
  simp only [R_ok, r]
  rw [lcEnd, if_neg Bool.false_ne_true, frzR]
  have L : (h1.set j (bag a' b' c')).length = h1.length := List.length_set
  have z : (h1.set j (bag a' b' c') ++ [some (MO.lst out)])[h1.length]? = some (some (.lst out)) := by
    rw [List.getElem?_append_right (by omega), L, Nat.sub_self]; rfl
  have z2 : (h1.set j (bag a' b' c') ++ [some (MO.lst out)]).set h1.length none = h1.set j (bag a' b' c') ++ [none] := by
    rw [List.set_append_right _ _ (by omega), L, Nat.sub_self]; rfl
  simp only [z, z2]
/-! ### words -/
theorem txts_ch : ∀ s : List Nat, txts (chT s) = some (s.map fun c => [c])
  | [] => rfl
  | c :: s => by rw [chT, List.map_cons, txts]; show (txts (chT s)).map _ = _; rw [txts_ch s]; rfl
theorem join1 : ∀ s : List Nat, joinL [] (s.map fun c => [c]) = s
  | [] => rfl
  | [c] => rfl
  | c :: d :: s => by
    have := join1 (d :: s)
    simp only [List.map_cons, joinL, List.append_nil] at this ⊢
    rw [this]; rfl
theorem sum1 : ∀ s : List Nat, ((s.map fun c => [c]).map List.length).sum = s.length
  | [] => rfl
  | c :: s => by simp only [List.map_cons, List.sum_cons, sum1 s, List.length_cons, List.length_nil]; omega
theorem joinR (s : List Nat) (h : Hm) (hs : s.length < 2000) : meR .join (.str []) [.lst (chT s)] h = .ok (.str s) h := by
  have z : ((s.map fun c => [c]).map List.length).sum + (s.map fun c => [c]).length * 0 ≤ lim := by rw [sum1, Nat.mul_zero, Nat.add_zero]; exact Nat.le_of_lt (ltlim hs)
  simp only [meR, lk_lst, txts_ch, List.length_nil, if_pos z, join1]
theorem ev_join {Γ : Env} {X : Ex} {σ : Sl} {h h' : Hm} {w : List Nat} (e : evE Γ X σ h = .ok (.lst (chT w)) h') (hw : w.length < 2000) : evE Γ (.me .join (.c (.str [])) [X]) σ h = .ok (.str w) h' := by
  rw [evE]
  simp only [evE, R_ok, lk_str, meOk, if_pos, evEs, e, joinR w _ hw]
theorem rngI (t : Int) (h0 : 0 ≤ t) (h1 : t < 1000) : rngO [.int t] = some ((List.range' 0 t.toNat).map iT) := by
  have := rng1 t.toNat (ltlim (by omega))
  rwa [show ((t.toNat : Nat) : Int) = t by omega] at this
theorem chT_app (s t : List Nat) : chT (s ++ t) = chT s ++ chT t := List.map_append
/-- _law_drawn_word -/
theorem sp19 (n j : Nat) (s : List Nat) (m : Nat) (a b c : Int) (h : Hm) (hl : s ≠ []) (hz : s.length < 1000) (hm : m < 900) (e : h[j]? = some (bag a b c)) :
    ∃ (w : List Nat) (a' b' c' : Int), w.length ≤ m ∧ (∀ x ∈ w, x ∈ s) ∧ call Φ tf (n + 3) 19 [.ref j, .str s, .int m] h = .ok (.str w) (h.set j (bag a' b' c')) := by
  obtain ⟨r, a1, b1, c1, r0, r1, q⟩ := sp17 (n + 1) j ((m : Int) + 1) a b c h (by omega) (by omega) e
  have e1 : (h.set j (bag a1 b1 c1))[j]? = some (bag a1 b1 c1) := set_bag e _
  have i1 : evI ⟨call Φ tf (n + 2), tf⟩ (.range [.call 17 [.v 0, .bin false .add (.v 2) (.c (.int 1))]]) [some (.ref j), some (.str s), some (.int m), none] h = .ok ((List.range' 0 r.toNat).map iT) (h.set j (bag a1 b1 c1)) := by
    have z : evEs ⟨call Φ tf (n + 2), tf⟩ [.call 17 [.v 0, .bin false .add (.v 2) (.c (.int 1))]] [some (.ref j), some (.str s), some (.int m), none] h = .ok [.int r] (h.set j (bag a1 b1 c1)) := by
      simp only [evSs, evS, evB, evE, evEs, evI, List.map_cons, List.map_nil, List.replicate, List.cons_append, List.nil_append, List.getElem?_cons_zero, List.getElem?_cons_succ, List.set_cons_zero, List.set_cons_succ, R_ok, R_exc, lk_str, lk_int, lk_bl, lk_non, lk_tup, lk_lst, tr_bl, Option.map_some, ofO_s, mkF, if_pos, if_neg Bool.false_ne_true, Bool.not_true, Bool.not_false, Tg.put, Tg.puts, Option.bind_some, opAdd, q]
    rw [evI, z, R_ok, rngI r r0 (by omega), ofO_s]
  obtain ⟨out, a2, b2, c2, r2, i2⟩ := ev_lcb (Γ := ⟨call Φ tf (n + 2), tf⟩) (g := .v 3) (cs := []) (e := .call 18 [.v 0, .v 1]) (j := j) (fun rem acc => ∃ w : List Nat, acc = chT w ∧ w.length + rem.length ≤ m ∧ ∀ x ∈ w, x ∈ s) i1 e1 List.length_set
    (fun x xs acc h' a b c i hd e l => by
      obtain ⟨w, rfl, hw, hx⟩ := i
      obtain ⟨y, a3, b3, c3, hy, r3⟩ := sp18s n j s a b c (h' ++ [some (.lst l)]) hl hz (app_at e _)
      rw [set_app e] at r3
      refine ⟨some (.str [y]), a3, b3, c3, ?_, w ++ [y], by rw [chT_app]; rfl, by simp at hw ⊢; omega, fun z hz => ?_⟩
      · have pu : Tg.put (.v 3) x [some (.ref j), some (.str s), some (.int m), none] = some [some (.ref j), some (.str s), some (.int m), some x] := rfl
        simp only [lcGo, pu, evBs, R_ok, if_pos, evE, evEs, List.getElem?_cons_zero, List.getElem?_cons_succ, r3]
      · rcases List.mem_append.mp hz with hz | hz
        · exact hx z hz
        · rw [List.mem_singleton.mp hz]; exact hy)
    ⟨[], rfl, by simp; omega, fun _ h => absurd h List.not_mem_nil⟩ (by rw [List.length_map, List.length_range']; exact ltlim (by omega))
  obtain ⟨w, rfl, hw, hx⟩ := i2
  rw [set_set] at r2
  refine ⟨w, a2, b2, c2, by simpa using hw, hx, ?_⟩
  rw [call_eq (d := ⟨3, 4, b19⟩) rfl rfl, b19]
  have hw' : w.length ≤ m := by simpa using hw
  rw [ss_ret (t := .str w) (h' := h.set j (bag a2 b2 c2) ++ [none]) (by
    rw [evS]
    have := ev_join r2 (by omega)
    erw [this]
    rfl)]
  exact leave_set _ rfl rfl
/-! ### items -/
def asP (s : List Nat) : Prop := s.Pairwise (· < ·)
theorem asc_of : ∀ s : List Nat, s.Pairwise (· < ·) → asc s = true
  | [], _ => rfl
  | [_], _ => rfl
  | a :: b :: r, h => by
    rw [List.pairwise_cons] at h
    have l := h.1 b List.mem_cons_self
    rw [asc, asc_of (b :: r) h.2, decide_eq_true l]; rfl
/-- letters of which the law draws -/
structure Sg (s : List Nat) : Prop where
  ne : s ≠ []
  up : s.Pairwise (· < ·)
  abc : ∀ x ∈ s, x ∈ abc
  few : s.length ≤ 4
theorem eqsne (s : List Nat) : cmO .ne (.str s) (.str []) = some (!s.isEmpty) := by
  rw [cmO, eqs]; cases s <;> rfl
theorem eq0 (r : Int) : cmO .eq (.int r) (.int 0) = some (r == 0) := rfl
/-- a text of some of the letters -/
theorem some20 (n j : Nat) (s : List Nat) (S : Sg s) (h : Hm) (a b c : Int) (e : h[j]? = some (bag a b c)) (M F K V : Option T) :
    ∃ (w : List Nat) (a' b' c' : Int), w.Sublist s ∧ evE ⟨call Φ tf (n + 2), tf⟩ (.me .join (.c (.str [])) [.lc false (.v 6) (.e (.v 1)) [.cmp .eq (.call 17 [.v 0, .c (.int 2)]) (.c (.int 0))] (.v 6)]) [some (.ref j), some (.str s), M, F, K, V, none] h = .ok (.str w) (h.set j (bag a' b' c') ++ [none]) := by
  have i1 : evI ⟨call Φ tf (n + 2), tf⟩ (.e (.v 1)) [some (.ref j), some (.str s), M, F, K, V, none] h = .ok (chT s) h := rfl
  obtain ⟨out, a2, b2, c2, r2, i2⟩ := ev_lcb (Γ := ⟨call Φ tf (n + 2), tf⟩) (g := .v 6) (cs := [.cmp .eq (.call 17 [.v 0, .c (.int 2)]) (.c (.int 0))]) (e := .v 6) (j := j) (fun rem acc => ∃ u w r : List Nat, s = u ++ r ∧ rem = chT r ∧ acc = chT w ∧ w.Sublist u) i1 e rfl
    (fun x xs acc h' a b c i hd e l => by
      obtain ⟨u, w, r, hs, hr, rfl, hw⟩ := i
      obtain ⟨y, r', rfl⟩ : ∃ y r', r = y :: r' := by
        cases r with
        | nil => cases hr
        | cons y r' => exact ⟨y, r', rfl⟩
      cases hr
      obtain ⟨t, a3, b3, c3, t0, t1, q⟩ := sp17 (n + 1) j 2 a b c (h' ++ [some (.lst l)]) (by omega) (by omega) (app_at e _)
      rw [set_app e] at q
      have e0 : evBs ⟨call Φ tf (n + 2), tf⟩ [.cmp .eq (.call 17 [.v 0, .c (.int 2)]) (.c (.int 0))] [some (.ref j), some (.str s), M, F, K, V, some (.str [y])] (h' ++ [some (.lst l)]) = .ok (t == 0) (h'.set j (bag a3 b3 c3) ++ [some (.lst l)]) := by
        simp only [evBs, evSs, evS, evB, evE, evEs, evI, List.map_cons, List.map_nil, List.replicate, List.cons_append, List.nil_append, List.getElem?_cons_zero, List.getElem?_cons_succ, List.set_cons_zero, List.set_cons_succ, R_ok, R_exc, lk_str, lk_int, lk_bl, lk_non, lk_tup, lk_lst, tr_bl, Option.map_some, ofO_s, mkF, if_pos, if_neg Bool.false_ne_true, Bool.not_true, Bool.not_false, Tg.put, Tg.puts, Option.bind_some, q, eq0]
        cases (t == 0) <;> rfl
      have pu : Tg.put (.v 6) (.str [y]) [some (.ref j), some (.str s), M, F, K, V, none] = some [some (.ref j), some (.str s), M, F, K, V, some (.str [y])] := rfl
      cases z : (t == 0) with
      | true =>
        rw [z] at e0
        refine ⟨some (.str [y]), a3, b3, c3, ?_, u ++ [y], w ++ [y], r', by simp [hs], rfl, by rw [chT_app]; rfl, hw.append (List.Sublist.refl _)⟩
        simp only [lcGo, pu, e0, R_ok, if_pos]
        rfl
      | false =>
        rw [z] at e0
        refine ⟨none, a3, b3, c3, ?_, u ++ [y], w, r', by simp [hs], rfl, by simp, hw.trans (List.sublist_append_left _ _)⟩
        simp only [lcGo, pu, e0, R_ok, if_neg Bool.false_ne_true])
    ⟨[], [], s, rfl, rfl, rfl, List.Sublist.refl _⟩ (by rw [chT_len]; exact ltlim (by have := S.few; omega))
  obtain ⟨u, w, r, hs, hr, rfl, hw⟩ := i2
  have hws : w.Sublist s := hw.trans (by rw [hs]; exact List.sublist_append_left _ _)
  refine ⟨w, a2, b2, c2, hws, ?_⟩
  have hwl := hws.length_le
  have hsf := S.few
  exact ev_join r2 (by omega)
/-- what holds of a drawn item -/
structure Dr (s : List Nat) (x : Item) : Prop where
  ne : x.1 ≠ []
  up : x.1.Pairwise (· < ·)
  inn : ∀ y ∈ x.1, y ∈ s
  few : x.1.length ≤ 4
theorem lkAt (h : Hm) (l : List T) (J : Hm) : (h ++ [some (MO.lst l)] ++ J : Hm)[h.length]? = some (some (.lst l)) := by
  rw [List.append_assoc, List.getElem?_append_right (Nat.le_refl _), Nat.sub_self]; rfl
theorem stAt (h : Hm) (l : List T) (J : Hm) (o : Option MO) : (h ++ [some (MO.lst l)] ++ J : Hm).set h.length o = h ++ [o] ++ J := by
  rw [List.append_assoc, List.set_append_right _ _ (Nat.le_refl _), Nat.sub_self, List.append_assoc]; rfl
theorem lkAt2 (h : Hm) (l : List T) (J : Hm) : look (h ++ [some (MO.lst l)] ++ J) (.ref h.length) = .lst l := by rw [look, lkAt]
theorem apAt (h : Hm) (l : List T) (J : Hm) (x : T) (e : l.length < lim) : meR .append (.ref h.length) [x] (h ++ [some (MO.lst l)] ++ J) = .ok .non (h ++ [some (MO.lst (l ++ [x]))] ++ J) := by
  simp only [meR, lkAt, e, if_pos, stAt]
theorem kinds (t : T) (h : t ∈ [T.str ONE, .str ONE, .str ANY]) : ∃ k : Bool, t = .str (if k then ANY else ONE) := by
  simp only [List.mem_cons, List.not_mem_nil, or_false] at h
  rcases h with rfl | rfl | rfl
  · exact ⟨false, rfl⟩
  · exact ⟨false, rfl⟩
  · exact ⟨true, rfl⟩
/-- the heap inside _law_drawn_items -/
def H20 (h : Hm) (j : Nat) (a b c : Int) (L : List Item) (J : Hm) : Hm := h.set j (bag a b c) ++ [some (.lst (L.map itT))] ++ J
def B20 : List St := [.asg (.v 5) (.me .join (.c (.str [])) [.lc false (.v 6) (.e (.v 1)) [.cmp .eq (.call 17 [.v 0, .c (.int 2)]) (.c (.int 0))] (.v 6)]),
    .ex (.me .append (.v 3) [.tup [.ite (.cmp .ne (.v 5) (.c (.str []))) (.v 5) (.call 18 [.v 0, .v 1]), .call 18 [.v 0, .lst false [.c (.str [111, 110, 101]), .c (.str [111, 110, 101]), .c (.str [97, 110, 121])]]]])]
theorem H20at {h : Hm} {j : Nat} {a b c : Int} (e : h[j]? = some (bag a b c)) (a' b' c' : Int) (L : List Item) (J : Hm) : (H20 h j a' b' c' L J)[j]? = some (bag a' b' c') := by
  unfold H20
  rw [List.append_assoc]
  exact app_at (set_bag e _) _
theorem H20set {h : Hm} {j : Nat} {a b c : Int} (e : h[j]? = some (bag a b c)) (a' b' c' x y z : Int) (L : List Item) (J : Hm) : (H20 h j a' b' c' L J).set j (bag x y z) = H20 h j x y z L J := by
  unfold H20
  rw [List.append_assoc, set_app (set_bag e _), set_set, ← List.append_assoc]
theorem bd20 (n j : Nat) (s : List Nat) (S : Sg s) (M K V6 : Option T) (h : Hm) (a b c : Int) (e : h[j]? = some (bag a b c)) (a1 b1 c1 : Int) (L : List Item) (J : Hm) (V : Option T) (hL : L.length < 1000) :
    ∃ (x : Item) (a2 b2 c2 : Int) (J2 : Hm) (V2 : Option T), Dr s x ∧ evSs ⟨call Φ tf (n + 2), tf⟩ B20 [some (.ref j), some (.str s), M, some (.ref h.length), K, V, none] (H20 h j a1 b1 c1 L J) = .ok (.next [some (.ref j), some (.str s), M, some (.ref h.length), K, V2, none]) (H20 h j a2 b2 c2 (L ++ [x]) J2) := by
  obtain ⟨w, a2, b2, c2, hw, r⟩ := some20 n j s S (H20 h j a1 b1 c1 L J) a1 b1 c1 (H20at e _ _ _ _ _) M (some (.ref h.length)) K V
  rw [H20set e] at r
  have J1 : H20 h j a2 b2 c2 L J ++ [none] = H20 h j a2 b2 c2 L (J ++ [none]) := by simp [H20]
  rw [J1] at r
  rw [B20, ss_step (asgS _ r rfl)]
  show ∃ (x : Item) (a2 b2 c2 : Int) (J2 : Hm) (V2 : Option T), Dr s x ∧ evSs ⟨call Φ tf (n + 2), tf⟩ [.ex (.me .append (.v 3) [.tup [.ite (.cmp .ne (.v 5) (.c (.str []))) (.v 5) (.call 18 [.v 0, .v 1]), .call 18 [.v 0, .lst false [.c (.str [111, 110, 101]), .c (.str [111, 110, 101]), .c (.str [97, 110, 121])]]]])] [some (.ref j), some (.str s), M, some (.ref h.length), K, some (.str w), none] _ = _
  have u1 : ∃ (ls : List Nat) (a3 b3 c3 : Int), ls ≠ [] ∧ ls.Sublist s ∧ evE ⟨call Φ tf (n + 2), tf⟩ (.ite (.cmp .ne (.v 5) (.c (.str []))) (.v 5) (.call 18 [.v 0, .v 1])) [some (.ref j), some (.str s), M, some (.ref h.length), K, some (.str w), none] (H20 h j a2 b2 c2 L (J ++ [none])) = .ok (.str ls) (H20 h j a3 b3 c3 L (J ++ [none])) := by
    by_cases hw0 : w = []
    · subst hw0
      obtain ⟨y, a3, b3, c3, hy, q⟩ := sp18s n j s a2 b2 c2 (H20 h j a2 b2 c2 L (J ++ [none])) S.ne (by have := S.few; omega) (H20at e _ _ _ _ _)
      rw [H20set e] at q
      refine ⟨[y], a3, b3, c3, by simp, List.singleton_sublist.mpr hy, ?_⟩
      have z : cmO .ne (.str []) (.str []) = some false := rfl
      simp only [evSs, evS, evB, evE, evEs, evI, List.map_cons, List.map_nil, List.replicate, List.cons_append, List.nil_append, List.getElem?_cons_zero, List.getElem?_cons_succ, List.set_cons_zero, List.set_cons_succ, R_ok, R_exc, lk_str, lk_int, lk_bl, lk_non, lk_tup, lk_lst, tr_bl, Option.map_some, ofO_s, mkF, if_pos, if_neg Bool.false_ne_true, Bool.not_true, Bool.not_false, Tg.put, Tg.puts, Option.bind_some, z, q]
    · refine ⟨w, a2, b2, c2, hw0, hw, ?_⟩
      have z : cmO .ne (.str w) (.str []) = some true := by rw [eqsne]; cases w <;> first | rfl | exact absurd rfl hw0
      simp only [evSs, evS, evB, evE, evEs, evI, List.map_cons, List.map_nil, List.replicate, List.cons_append, List.nil_append, List.getElem?_cons_zero, List.getElem?_cons_succ, List.set_cons_zero, List.set_cons_succ, R_ok, R_exc, lk_str, lk_int, lk_bl, lk_non, lk_tup, lk_lst, tr_bl, Option.map_some, ofO_s, mkF, if_pos, if_neg Bool.false_ne_true, Bool.not_true, Bool.not_false, Tg.put, Tg.puts, Option.bind_some, z]
  obtain ⟨ls, a3, b3, c3, ls0, lss, u1⟩ := u1
  obtain ⟨t, a4, b4, c4, ht, q⟩ := sp18l n j [T.str ONE, .str ONE, .str ANY] a3 b3 c3 (H20 h j a3 b3 c3 L (J ++ [none])) (by simp) (by simp) (fun t ht => by
    obtain ⟨k, rfl⟩ := kinds t ht; rfl) (H20at e _ _ _ _ _)
  obtain ⟨k, rfl⟩ := kinds t ht
  rw [H20set e] at q
  refine ⟨(ls, k), a4, b4, c4, J ++ [none], some (.str w), ⟨ls0, S.up.sublist lss, fun y hy => lss.subset hy, Nat.le_trans lss.length_le S.few⟩, ?_⟩
  have z : (h.set j (bag a4 b4 c4)).length = h.length := List.length_set
  have hz : (L.map itT).length < lim := by rw [List.length_map]; exact ltlim (by omega)
  have ap : meR .append (.ref h.length) [itT (ls, k)] (H20 h j a4 b4 c4 L (J ++ [none])) = .ok .non (H20 h j a4 b4 c4 (L ++ [(ls, k)]) (J ++ [none])) := by
    have := apAt (h.set j (bag a4 b4 c4)) (L.map itT) (J ++ [none]) (itT (ls, k)) hz
    rw [z] at this
    rw [H20, this, H20, List.map_append]; rfl
  have lk : look (H20 h j a2 b2 c2 L (J ++ [none])) (.ref h.length) = .lst (L.map itT) := by
    have := lkAt2 (h.set j (bag a2 b2 c2)) (L.map itT) (J ++ [none])
    rwa [List.length_set] at this
  have es : evEs ⟨call Φ tf (n + 2), tf⟩ [.tup [.ite (.cmp .ne (.v 5) (.c (.str []))) (.v 5) (.call 18 [.v 0, .v 1]), .call 18 [.v 0, .lst false [.c (.str [111, 110, 101]), .c (.str [111, 110, 101]), .c (.str [97, 110, 121])]]]] [some (.ref j), some (.str s), M, some (.ref h.length), K, some (.str w), none] (H20 h j a2 b2 c2 L (J ++ [none])) = .ok [itT (ls, k)] (H20 h j a4 b4 c4 L (J ++ [none])) := by
    have q' : call Φ tf (n + 2) 18 [.ref j, .lst [.str [111, 110, 101], .str [111, 110, 101], .str [97, 110, 121]]] (H20 h j a3 b3 c3 L (J ++ [none])) = _ := q
    simp only [evEs, evE, ↓u1, R_ok, List.getElem?_cons_zero, mkF, q']
    rfl
  simp only [evSs, evS]
  rw [evE]
  simp only [evE, List.getElem?_cons_zero, List.getElem?_cons_succ, R_ok, lk, meOk, if_pos]
  erw [es]
  simp only [R_ok, ap]
theorem lp20 (n j : Nat) (s : List Nat) (S : Sg s) (M : Option T) (h : Hm) (a b c : Int) (e : h[j]? = some (bag a b c)) :
    ∀ (xs : List T) (K V : Option T) (a1 b1 c1 : Int) (L : List Item) (J : Hm), L.length + xs.length < 1000 → (∀ x ∈ L, Dr s x) →
    ∃ (L2 : List Item) (a2 b2 c2 : Int) (J2 : Hm) (K2 V2 : Option T), L2.length = L.length + xs.length ∧ (∀ x ∈ L2, Dr s x) ∧ forLoop (.v 4) (fun σ h => evSs ⟨call Φ tf (n + 2), tf⟩ B20 σ h) xs [some (.ref j), some (.str s), M, some (.ref h.length), K, V, none] (H20 h j a1 b1 c1 L J) = .ok (.next [some (.ref j), some (.str s), M, some (.ref h.length), K2, V2, none]) (H20 h j a2 b2 c2 L2 J2)
  | [], K, V, a1, b1, c1, L, J, _, hD => ⟨L, a1, b1, c1, J, K, V, rfl, hD, rfl⟩
  | x :: xs, K, V, a1, b1, c1, L, J, hl, hD => by
    rw [List.length_cons] at hl
    obtain ⟨y, a2, b2, c2, J2, V2, dy, r⟩ := bd20 n j s S M (some x) none h a b c e a1 b1 c1 L J V (by omega)
    obtain ⟨L3, a3, b3, c3, J3, K3, V3, hl3, hD3, r3⟩ := lp20 n j s S M h a b c e xs (some x) V2 a2 b2 c2 (L ++ [y]) J2 (by simp; omega) (fun z hz => by
      rcases List.mem_append.mp hz with hz | hz
      · exact hD z hz
      · rw [List.mem_singleton.mp hz]; exact dy)
    refine ⟨L3, a3, b3, c3, J3, K3, V3, by rw [hl3]; simp; omega, hD3, ?_⟩
    have pu : Tg.put (.v 4) x [some (.ref j), some (.str s), M, some (.ref h.length), K, V, none] = some [some (.ref j), some (.str s), M, some (.ref h.length), some x, V, none] := rfl
    rw [forLoop]
    simp only [pu, r, R_ok]
    exact r3
theorem und_its (n : Nat) : ∀ L : List Item, T.unds n (L.map itT) = true
  | [] => rfl
  | _ :: L => by rw [List.map_cons, T.unds, und_its n L]; rfl
/-- _law_drawn_items -/
theorem sp20 (n j : Nat) (s : List Nat) (S : Sg s) (m : Nat) (a b c : Int) (h : Hm) (hm : m < 900) (e : h[j]? = some (bag a b c)) :
    ∃ (L : List Item) (a' b' c' : Int), L.length ≤ m ∧ (∀ x ∈ L, Dr s x) ∧ call Φ tf (n + 3) 20 [.ref j, .str s, .int m] h = .ok (itsT L) (h.set j (bag a' b' c')) := by
  have e0 : (h ++ [some (.lst [])])[j]? = some (bag a b c) := app_at e _
  obtain ⟨r, a1, b1, c1, r0, r1, q⟩ := sp17 (n + 1) j ((m : Int) + 1) a b c (h ++ [some (.lst [])]) (by omega) (by omega) e0
  have hq : (h ++ [some (MO.lst [])]).set j (bag a1 b1 c1) = H20 h j a1 b1 c1 [] [] := by rw [set_app e]; simp [H20]
  rw [hq] at q
  obtain ⟨L, a2, b2, c2, J2, K2, V2, hl, hD, r2⟩ := lp20 n j s S (some (.int m)) h a b c e ((List.range' 0 r.toNat).map iT) none none a1 b1 c1 [] [] (by simp; omega) (fun x hx => absurd hx List.not_mem_nil)
  refine ⟨L, a2, b2, c2, by rw [hl]; simp; omega, hD, ?_⟩
  have i1 : evI ⟨call Φ tf (n + 2), tf⟩ (.range [.call 17 [.v 0, .bin false .add (.v 2) (.c (.int 1))]]) [some (.ref j), some (.str s), some (.int m), some (.ref h.length), none, none, none] (h ++ [some (.lst [])]) = .ok ((List.range' 0 r.toNat).map iT) (H20 h j a1 b1 c1 [] []) := by
    have z : evEs ⟨call Φ tf (n + 2), tf⟩ [.call 17 [.v 0, .bin false .add (.v 2) (.c (.int 1))]] [some (.ref j), some (.str s), some (.int m), some (.ref h.length), none, none, none] (h ++ [some (.lst [])]) = .ok [.int r] (H20 h j a1 b1 c1 [] []) := by
      simp only [evSs, evS, evB, evE, evEs, evI, List.map_cons, List.map_nil, List.replicate, List.cons_append, List.nil_append, List.getElem?_cons_zero, List.getElem?_cons_succ, List.set_cons_zero, List.set_cons_succ, R_ok, R_exc, lk_str, lk_int, lk_bl, lk_non, lk_tup, lk_lst, tr_bl, Option.map_some, ofO_s, mkF, if_pos, if_neg Bool.false_ne_true, Bool.not_true, Bool.not_false, Tg.put, Tg.puts, Option.bind_some, opAdd, q]
    rw [evI, z, R_ok, rngI r r0 (by omega), ofO_s]
  rw [call_eq (d := ⟨3, 7, b20⟩) rfl rfl, b20]
  rw [ss_step (σ' := [some (.ref j), some (.str s), some (.int m), some (.ref h.length), none, none, none]) (h' := h ++ [some (.lst [])]) (by simp only [evSs, evS, evB, evE, evEs, evI, List.map_cons, List.map_nil, List.replicate, List.cons_append, List.nil_append, List.getElem?_cons_zero, List.getElem?_cons_succ, List.set_cons_zero, List.set_cons_succ, R_ok, R_exc, lk_str, lk_int, lk_bl, lk_non, lk_tup, lk_lst, tr_bl, Option.map_some, ofO_s, mkF, if_pos, if_neg Bool.false_ne_true, Bool.not_true, Bool.not_false, Tg.put, Tg.puts, Option.bind_some, mk])]
  rw [ss_step (σ' := [some (.ref j), some (.str s), some (.int m), some (.ref h.length), K2, V2, none]) (h' := H20 h j a2 b2 c2 L J2) (by rw [evS, i1]; exact r2)]
  have lk : look (H20 h j a2 b2 c2 L J2) (.ref h.length) = .lst (L.map itT) := by
    have := lkAt2 (h.set j (bag a2 b2 c2)) (L.map itT) J2
    rwa [List.length_set] at this
  have tp : biO .tuple [.lst (L.map itT)] = some (itsT L) := rfl
  rw [ss_ret (t := itsT L) (h' := H20 h j a2 b2 c2 L J2) (by simp only [evSs, evS, evB, evE, evEs, evI, List.map_cons, List.map_nil, List.replicate, List.cons_append, List.nil_append, List.getElem?_cons_zero, List.getElem?_cons_succ, List.set_cons_zero, List.set_cons_succ, R_ok, R_exc, lk_str, lk_int, lk_bl, lk_non, lk_tup, lk_lst, tr_bl, Option.map_some, ofO_s, mkF, if_pos, if_neg Bool.false_ne_true, Bool.not_true, Bool.not_false, Tg.put, Tg.puts, Option.bind_some, lk, tp])]
  show leave h _ _ = _
  rw [H20, List.append_assoc]
  exact leave_set _ (und_its _ _) rfl
end K60
end
/-! part K60m -/
section
set_option autoImplicit false
set_option linter.all false
set_option maxRecDepth 10000
/-! K60m: drawn patterns, near texts, values that are no patterns. -/
namespace K60
open Tw
theorem isW_of {s : List Nat} (h : ∀ x ∈ s, x ∈ abc) : isW (.str s) = true := by
  rw [isW, List.all_eq_true]
  exact fun x hx => List.contains_iff_mem.mpr (h x hx)
theorem isK_k (k : Bool) : isK (.str (if k then ANY else ONE)) = true := by cases k <;> rfl
/-- what holds of a drawn pattern's items -/
structure DP (L : List Item) : Prop where
  few : L.length ≤ 3
  ok : ∀ x ∈ L, x.1 ≠ [] ∧ x.1.Pairwise (· < ·) ∧ (∀ y ∈ x.1, y ∈ abc) ∧ x.1.length ≤ 4
theorem it_ok {x : Item} (h : x.1 ≠ [] ∧ x.1.Pairwise (· < ·) ∧ (∀ y ∈ x.1, y ∈ abc) ∧ x.1.length ≤ 4) : itOk x = true := by
  obtain ⟨ls, k⟩ := x
  obtain ⟨h1, h2, h3, _⟩ := h
  have e : ls.isEmpty = false := by cases ls <;> first | rfl | exact absurd rfl h1
  have e0 : itOk (ls, k) = (isW (.str ls) && (!ls.isEmpty && (asc ls && isK (.str (if k then ANY else ONE))))) := rfl
  rw [e0, isW_of h3, e, asc_of ls h2, isK_k]; rfl
theorem nr_it {x : Item} (h : x.1.length ≤ 4) : nr (itT x) = true := by
  obtain ⟨ls, k⟩ := x
  have e : decide (ls.length ≤ 1000) = true := decide_eq_true (by simp at h; omega)
  have e0 : nr (itT (ls, k)) = (decide (ls.length ≤ 1000) && (nr (.str (if k then ANY else ONE)) && true)) := rfl
  rw [e0, e]
  cases k <;> rfl
theorem nrs_its : ∀ L : List Item, (∀ x ∈ L, x.1.length ≤ 4) → nrs (L.map itT) = true
  | [], _ => rfl
  | x :: L, h => by
    rw [List.map_cons, nrs, nr_it (h x List.mem_cons_self), nrs_its L fun y hy => h y (List.mem_cons_of_mem _ hy)]; rfl
namespace DP
variable {L : List Item} (d : DP L)
include d
theorem isP (w : Bool) : K60.isP (patT L w) = true := isP_pat L w d.few (List.all_eq_true.mpr fun x hx => it_ok (d.ok x hx))
theorem nrs : K60.nrs (L.map itT) = true := nrs_its L fun x hx => (d.ok x hx).2.2.2
theorem nrI : nr (itsT L) = true := by
  have e : decide ((L.map itT).length ≤ 1000) = true := decide_eq_true (by rw [List.length_map]; have := d.few; omega)
  have e0 : nr (itsT L) = (decide ((L.map itT).length ≤ 1000) && K60.nrs (L.map itT)) := rfl
  rw [e0, e, d.nrs]; rfl
theorem nrP (w : Bool) : nr (patT L w) = true := by
  have e0 : nr (patT L w) = (true && (nr (itsT L) && (true && true))) := rfl
  rw [e0, d.nrI]; rfl
end DP
theorem sg_in {s : List Nat} (S : Sg s) {L : List Item} (h : L.length ≤ 3) (hD : ∀ x ∈ L, Dr s x) : DP L :=
  ⟨h, fun x hx => ⟨(hD x hx).ne, (hD x hx).up, fun y hy => S.abc y ((hD x hx).inn y hy), (hD x hx).few⟩⟩
theorem ints5 (t : T) (h : t ∈ [T.int 0, .int 1, .int 1, .int 2, .int 3]) : ∃ m : Nat, m ≤ 3 ∧ t = .int m := by
  simp only [List.mem_cons, List.not_mem_nil, or_false] at h
  rcases h with rfl | rfl | rfl | rfl | rfl
  · exact ⟨0, by omega, rfl⟩
  · exact ⟨1, by omega, rfl⟩
  · exact ⟨1, by omega, rfl⟩
  · exact ⟨2, by omega, rfl⟩
  · exact ⟨3, by omega, rfl⟩
/-- _law_drawn_pattern -/
theorem sp21 (n j : Nat) (s : List Nat) (S : Sg s) (a b c : Int) (h : Hm) (e : h[j]? = some (bag a b c)) :
    ∃ (L : List Item) (w : Bool) (a' b' c' : Int), DP L ∧ call Φ tf (n + 4) 21 [.ref j, .str s] h = .ok (patT L w) (h.set j (bag a' b' c')) := by
  obtain ⟨t, a1, b1, c1, ht, q⟩ := sp18l (n + 1) j [T.int 0, .int 1, .int 1, .int 2, .int 3] a b c h (by simp) (by simp) (fun t ht => by obtain ⟨m, _, rfl⟩ := ints5 t ht; rfl) e
  obtain ⟨m, hm, rfl⟩ := ints5 t ht
  have e1 := set_bag e (bag a1 b1 c1)
  obtain ⟨L, a2, b2, c2, hl, hD, q2⟩ := sp20 n j s S m a1 b1 c1 _ (by omega) e1
  rw [set_set] at q2
  have e2 := set_bag e (bag a2 b2 c2)
  obtain ⟨r, a3, b3, c3, r0, r1, q3⟩ := sp17 (n + 2) j 4 a2 b2 c2 _ (by omega) (by omega) e2
  rw [set_set] at q3
  refine ⟨L, r == 0, a3, b3, c3, sg_in S (by omega) hD, ?_⟩
  rw [call_eq (d := ⟨2, 2, b21⟩) rfl rfl, b21]
  rw [ss_ret (t := patT L (r == 0)) (h' := h.set j (bag a3 b3 c3)) (by
    simp only [evSs, evS, evB, evE, evEs, evI, List.map_cons, List.map_nil, List.replicate, List.cons_append, List.nil_append, List.getElem?_cons_zero, List.getElem?_cons_succ, List.set_cons_zero, List.set_cons_succ, R_ok, R_exc, lk_str, lk_int, lk_bl, lk_non, lk_tup, lk_lst, tr_bl, Option.map_some, ofO_s, mkF, if_pos, if_neg Bool.false_ne_true, Bool.not_true, Bool.not_false, Tg.put, Tg.puts, Option.bind_some, q, q2, q3, eq0]
    rfl)]
  refine leave_set0 ?_ rfl
  show T.unds _ [itsT L, .bl _] = true
  rw [T.unds, show T.und h.length (itsT L) = true from und_its _ _]; rfl
/-! ### near texts -/
structure Wd (m : Nat) (w : List Nat) : Prop where
  few : w.length ≤ m
  abc : ∀ x ∈ w, x ∈ abc
theorem Wd.app {m k : Nat} {v w : List Nat} (a : Wd m v) (b : Wd k w) : Wd (m + k) (v ++ w) := ⟨by rw [List.length_append]; have := a.few; have := b.few; omega, fun x hx => (List.mem_append.mp hx).elim (a.abc x) (b.abc x)⟩
theorem Wd.mono {m k : Nat} {w : List Nat} (a : Wd m w) (h : m ≤ k) : Wd k w := ⟨Nat.le_trans a.few h, a.abc⟩
theorem Wd.tx {m : Nat} {w : List Nat} (a : Wd m w) (h : m ≤ 60) : isTx (.str w) = true ∧ nr (.str w) = true := by
  have e := a.few
  refine ⟨?_, ?_⟩
  · have e0 : isTx (.str w) = (decide (w.length ≤ 60) && isW (.str w)) := rfl
    rw [e0, isW_of a.abc, decide_eq_true (by omega)]; rfl
  · show decide (w.length ≤ 1000) = true
    exact decide_eq_true (by omega)
theorem rep1 (y : Nat) (k : Int) : rep [y] k = List.replicate k.toNat y := by
  unfold rep
  induction k.toNat with
  | zero => rfl
  | succ n ih => rw [List.replicate_succ, List.flatten_cons, ih]; rfl
theorem mulS (y : Nat) (k : Int) (h0 : 0 ≤ k) (h1 : k < 10) : opO .mul (.str [y]) (.int k) = some (.str (List.replicate k.toNat y)) := by
  have e : [y].length * k.toNat ≤ lim ∧ k ≤ 1000000 ∧ -1000000 ≤ k := ⟨by show (0 + 1) * k.toNat ≤ lim; unfold lim; omega, by omega, by omega⟩
  rw [← rep1]
  simp only [opO, if_pos e]
theorem addS (x y : List Nat) (hx : x.length < 500) (hy : y.length < 500) : opO .add (.str x) (.str y) = some (.str (x ++ y)) := by
  have e : x.length + y.length ≤ lim := Nat.le_of_lt (ltlim (by omega))
  simp only [opO, if_pos e]
def B26 : List St := [.asg (.v 2) (.bin false .add (.v 2) (.bin false .mul (.call 18 [.v 0, .v 4]) (.ite (.cmp .eq (.v 5) (.c (.str [111, 110, 101]))) (.c (.int 1)) (.call 17 [.v 0, .c (.int 3)]))))]
theorem bd26 (n j : Nat) (P S3 S6 S7 : Option T) (x : Item) (hx : x.1 ≠ [] ∧ x.1.Pairwise (· < ·) ∧ (∀ y ∈ x.1, y ∈ abc) ∧ x.1.length ≤ 4) (m : Nat) (f : List Nat) (hf : Wd m f) (hm : m < 100) (a b c : Int) (h : Hm) (e : h[j]? = some (bag a b c)) :
    ∃ (f2 : List Nat) (a' b' c' : Int), Wd (m + 2) f2 ∧ evSs ⟨call Φ tf (n + 2), tf⟩ B26 [some (.ref j), P, some (.str f), S3, some (.str x.1), some (.str (if x.2 then ANY else ONE)), S6, S7] h = .ok (.next [some (.ref j), P, some (.str f2), S3, some (.str x.1), some (.str (if x.2 then ANY else ONE)), S6, S7]) (h.set j (bag a' b' c')) := by
  obtain ⟨ls, k⟩ := x
  obtain ⟨h1, h2, h3, h4⟩ := hx
  simp only at h1 h2 h3 h4 ⊢
  obtain ⟨y, a1, b1, c1, hy, q⟩ := sp18s n j ls a b c h h1 (by omega) e
  have e1 := set_bag e (bag a1 b1 c1)
  have hf1 := hf.few
  have u : ∃ (k2 : Int) (a' b' c' : Int), 0 ≤ k2 ∧ k2 < 3 ∧ evE ⟨call Φ tf (n + 2), tf⟩ (.ite (.cmp .eq (.v 5) (.c (.str [111, 110, 101]))) (.c (.int 1)) (.call 17 [.v 0, .c (.int 3)])) [some (.ref j), P, some (.str f), S3, some (.str ls), some (.str (if k then ANY else ONE)), S6, S7] (h.set j (bag a1 b1 c1)) = .ok (.int k2) (h.set j (bag a' b' c')) := by
    cases k with
    | false => exact ⟨1, a1, b1, c1, by omega, by omega, rfl⟩
    | true =>
      obtain ⟨r, a2, b2, c2, r0, r1, q2⟩ := sp17 (n + 1) j 3 a1 b1 c1 _ (by omega) (by omega) e1
      rw [set_set] at q2
      refine ⟨r, a2, b2, c2, r0, r1, ?_⟩
      simp only [evSs, evS, evB, evE, evEs, evI, List.map_cons, List.map_nil, List.replicate, List.cons_append, List.nil_append, List.getElem?_cons_zero, List.getElem?_cons_succ, List.set_cons_zero, List.set_cons_succ, R_ok, R_exc, lk_str, lk_int, lk_bl, lk_non, lk_tup, lk_lst, tr_bl, Option.map_some, ofO_s, mkF, if_pos, if_neg Bool.false_ne_true, Bool.not_true, Bool.not_false, Tg.put, Tg.puts, Option.bind_some, cmO, eqs, anyK, q2]
  obtain ⟨k2, a2, b2, c2, k0, k1, u⟩ := u
  refine ⟨f ++ List.replicate k2.toNat y, a2, b2, c2, hf.app ⟨by rw [List.length_replicate]; omega, fun x hx => by rw [(List.mem_replicate.mp hx).2]; exact h3 y hy⟩, ?_⟩
  have v : evE ⟨call Φ tf (n + 2), tf⟩ (.bin false .add (.v 2) (.bin false .mul (.call 18 [.v 0, .v 4]) (.ite (.cmp .eq (.v 5) (.c (.str [111, 110, 101]))) (.c (.int 1)) (.call 17 [.v 0, .c (.int 3)])))) [some (.ref j), P, some (.str f), S3, some (.str ls), some (.str (if k then ANY else ONE)), S6, S7] h = .ok (.str (f ++ List.replicate k2.toNat y)) (h.set j (bag a2 b2 c2)) := by
    have v1 : evE ⟨call Φ tf (n + 2), tf⟩ (.call 18 [.v 0, .v 4]) [some (.ref j), P, some (.str f), S3, some (.str ls), some (.str (if k then ANY else ONE)), S6, S7] h = .ok (.str [y]) (h.set j (bag a1 b1 c1)) := by
      simp only [evE, evEs, List.getElem?_cons_zero, List.getElem?_cons_succ, R_ok, q]
    have v2 : evE ⟨call Φ tf (n + 2), tf⟩ (.bin false .mul (.call 18 [.v 0, .v 4]) (.ite (.cmp .eq (.v 5) (.c (.str [111, 110, 101]))) (.c (.int 1)) (.call 17 [.v 0, .c (.int 3)]))) [some (.ref j), P, some (.str f), S3, some (.str ls), some (.str (if k then ANY else ONE)), S6, S7] h = .ok (.str (List.replicate k2.toNat y)) (h.set j (bag a2 b2 c2)) := by
      rw [evE, v1, R_ok, u, R_ok, lk_str, lk_int, mulS y k2 k0 (by omega), ofO_s, R_ok, mkF]
    have v0 : evE ⟨call Φ tf (n + 2), tf⟩ (.v 2) [some (.ref j), P, some (.str f), S3, some (.str ls), some (.str (if k then ANY else ONE)), S6, S7] h = .ok (.str f) h := rfl
    rw [evE, v0, R_ok, v2, R_ok, lk_str, lk_str, addS f _ (by omega) (show (List.replicate k2.toNat y).length < 500 by rw [List.length_replicate]; omega), ofO_s, R_ok, mkF]
  rw [B26, ss_step (asgS _ v rfl)]
  rfl
theorem lp26 (n j : Nat) (P S3 S6 S7 : Option T) : ∀ (L : List Item) (m : Nat) (f : List Nat) (S4 S5 : Option T) (a b c : Int) (h : Hm), (∀ x ∈ L, x.1 ≠ [] ∧ x.1.Pairwise (· < ·) ∧ (∀ y ∈ x.1, y ∈ abc) ∧ x.1.length ≤ 4) → Wd m f → m + 2 * L.length < 50 → h[j]? = some (bag a b c) →
    ∃ (f2 : List Nat) (S4' S5' : Option T) (a' b' c' : Int), Wd (m + 2 * L.length) f2 ∧ forLoop (.u [.v 4, .v 5]) (fun σ h => evSs ⟨call Φ tf (n + 2), tf⟩ B26 σ h) (L.map itT) [some (.ref j), P, some (.str f), S3, S4, S5, S6, S7] h = .ok (.next [some (.ref j), P, some (.str f2), S3, S4', S5', S6, S7]) (h.set j (bag a' b' c'))
  | [], m, f, S4, S5, a, b, c, h, _, hf, _, e => ⟨f, S4, S5, a, b, c, hf, by rw [set_same e]; rfl⟩
  | x :: L, m, f, S4, S5, a, b, c, h, hx, hf, hm, e => by
    rw [List.length_cons] at hm
    obtain ⟨f2, a1, b1, c1, w, r⟩ := bd26 n j P S3 S6 S7 x (hx x List.mem_cons_self) m f hf (by omega) a b c h e
    obtain ⟨f3, S4', S5', a2, b2, c2, w3, r3⟩ := lp26 n j P S3 S6 S7 L (m + 2) f2 (some (.str x.1)) (some (.str (if x.2 then ANY else ONE))) a1 b1 c1 _ (fun y hy => hx y (List.mem_cons_of_mem _ hy)) w (by omega) (set_bag e _)
    rw [set_set] at r3
    refine ⟨f3, S4', S5', a2, b2, c2, w3.mono (by rw [List.length_cons]; omega), ?_⟩
    have pu : Tg.put (.u [.v 4, .v 5]) (itT x) [some (.ref j), P, some (.str f), S3, S4, S5, S6, S7] = some [some (.ref j), P, some (.str f), S3, some (.str x.1), some (.str (if x.2 then ANY else ONE)), S6, S7] := rfl
    rw [List.map_cons, forLoop]
    simp only [pu, r, R_ok]
    exact r3
theorem cutN (s : List Nat) : ∀ x ∈ cutL s none (some (-1)), x ∈ s := fun x hx => List.mem_of_mem_drop (List.mem_of_mem_take hx)
theorem cutNl (s : List Nat) : (cutL s none (some (-1))).length ≤ s.length := by
  unfold cutL
  rw [List.length_take, List.length_drop]
  omega
theorem abc3 : ∀ x ∈ [97, 98, 99], x ∈ abc := by decide
/-- _law_near_text -/
theorem sp26 (n j : Nat) (L : List Item) (w : Bool) (D : DP L) (a b c : Int) (h : Hm) (e : h[j]? = some (bag a b c)) :
    ∃ (t : List Nat) (a' b' c' : Int), Wd 10 t ∧ call Φ tf (n + 4) 26 [.ref j, patT L w] h = .ok (.str t) (h.set j (bag a' b' c')) := by
  have D3 := D.few
  obtain ⟨f, S4, S5, a1, b1, c1, wf, r1⟩ := lp26 (n + 1) j (some (patT L w)) none none none L 0 [] none none a b c h D.ok ⟨Nat.le_refl _, fun x hx => absurd hx List.not_mem_nil⟩ (by omega) e
  obtain ⟨u, a2, b2, c2, hu, hu2, q2⟩ := sp19 n j [97, 98, 99] 2 a1 b1 c1 _ (by simp) (by simp) (by omega) (set_bag e _)
  rw [set_set] at q2
  obtain ⟨v, a3, b3, c3, hv, hv2, q3⟩ := sp19 n j [97, 98, 99] 2 a2 b2 c2 _ (by simp) (by simp) (by omega) (set_bag e _)
  rw [set_set] at q3
  have wf' : Wd 6 f := wf.mono (by omega)
  have wu : Wd 2 u := ⟨hu, fun x hx => abc3 x (hu2 x hx)⟩
  have wv : Wd 2 v := ⟨hv, fun x hx => abc3 x (hv2 x hx)⟩
  have lf := wf'.few
  have ls : ∀ t ∈ [T.str f, .str (u ++ f), .str (f ++ v), .str (u ++ f ++ v), .str (f.drop 1), .str (cutL f none (some (-1))), .str (u ++ v)], ∃ z, Wd 10 z ∧ t = .str z := by
    intro t ht
    simp only [List.mem_cons, List.not_mem_nil, or_false] at ht
    rcases ht with rfl | rfl | rfl | rfl | rfl | rfl | rfl
    · exact ⟨_, wf'.mono (by omega), rfl⟩
    · exact ⟨_, (wu.app wf').mono (by omega), rfl⟩
    · exact ⟨_, (wf'.app wv).mono (by omega), rfl⟩
    · exact ⟨_, ((wu.app wf').app wv).mono (by omega), rfl⟩
    · exact ⟨_, ⟨by rw [List.length_drop]; omega, fun x hx => wf'.abc x (List.mem_of_mem_drop hx)⟩, rfl⟩
    · exact ⟨_, ⟨by have := cutNl f; omega, fun x hx => wf'.abc x (cutN f x hx)⟩, rfl⟩
    · exact ⟨_, (wu.app wv).mono (by omega), rfl⟩
  obtain ⟨t, a4, b4, c4, ht, q4⟩ := sp18l (n + 1) j [T.str f, .str (u ++ f), .str (f ++ v), .str (u ++ f ++ v), .str (f.drop 1), .str (cutL f none (some (-1))), .str (u ++ v)] a3 b3 c3 _ (by simp) (by simp) (fun t ht => by obtain ⟨z, _, rfl⟩ := ls t ht; rfl) (set_bag e (bag a3 b3 c3))
  rw [set_set] at q4
  obtain ⟨z, wz, rfl⟩ := ls t ht
  refine ⟨z, a4, b4, c4, wz, ?_⟩
  have i1 : evI ⟨call Φ tf (n + 3), tf⟩ (.e (.ix (.v 1) (.c (.int 0)))) [some (.ref j), some (patT L w), some (.str []), none, none, none, none, none] h = .ok (L.map itT) h := by
    simp only [evI, evE, List.getElem?_cons_zero, List.getElem?_cons_succ, R_ok, lk_pat, ixP0, ofO_s]
    rfl
  rw [call_eq (d := ⟨2, 8, b26⟩) rfl rfl, b26]
  rw [ss_step (σ' := [some (.ref j), some (patT L w), some (.str []), none, none, none, none, none]) (h' := h) rfl]
  rw [ss_step (σ' := [some (.ref j), some (patT L w), some (.str f), none, S4, S5, none, none]) (h' := h.set j (bag a1 b1 c1)) (by rw [evS, i1]; exact r1)]
  rw [ss_step (σ' := [some (.ref j), some (patT L w), some (.str f), none, S4, S5, some (.str u), some (.str v)]) (h' := h.set j (bag a3 b3 c3)) (asgS (.tup [.str u, .str v]) (by
    have q2' : call Φ tf (n + 3) 19 [.ref j, .str [97, 98, 99], .int 2] (h.set j (bag a1 b1 c1)) = _ := q2
    have q3' : call Φ tf (n + 3) 19 [.ref j, .str [97, 98, 99], .int 2] (h.set j (bag a2 b2 c2)) = _ := q3
    simp only [evE, evEs, List.getElem?_cons_zero, R_ok, q2', q3']) rfl)]
  have lu := wu.few
  have lv := wv.few
  have s1 : cutO (some 1) none (.str f) = some (.str (f.drop 1)) := cut1S f
  have s2 : cutO none (some (-1)) (.str f) = some (.str (cutL f none (some (-1)))) := rfl
  have m1 := addS u f (by omega) (by omega)
  have m2 := addS f v (by omega) (by omega)
  have m3 := addS (u ++ f) v (by rw [List.length_append]; omega) (by omega)
  have m4 := addS u v (by omega) (by omega)
  rw [ss_step (σ' := [some (.ref j), some (patT L w), some (.str f), some (.lst [T.str f, .str (u ++ f), .str (f ++ v), .str (u ++ f ++ v), .str (f.drop 1), .str (cutL f none (some (-1))), .str (u ++ v)]), S4, S5, some (.str u), some (.str v)]) (h' := h.set j (bag a3 b3 c3)) (asgS (.lst [T.str f, .str (u ++ f), .str (f ++ v), .str (u ++ f ++ v), .str (f.drop 1), .str (cutL f none (some (-1))), .str (u ++ v)]) (by
    simp only [evE, evEs, List.getElem?_cons_zero, List.getElem?_cons_succ, R_ok, lk_str, lk_int, optI, s1, s2, m1, m2, m3, m4, ofO_s, mkF]) rfl)]
  rw [ss_ret (t := .str z) (h' := h.set j (bag a4 b4 c4)) (by simp only [evS, evE, evEs, List.getElem?_cons_zero, List.getElem?_cons_succ, R_ok, q4])]
  exact leave_set0 rfl rfl
end K60
end
/-! part K60n -/
section
set_option autoImplicit false
set_option linter.all false
set_option maxRecDepth 10000
/-! K60n: the values that are no patterns; what is refused. -/
namespace K60
open Tw
theorem ss_stepT {Γ : Env} {st : St} {ss : List St} {σ σ' : Sl} {h h' : Hm} {r : R Fl} (e : evS Γ st σ h = .ok (.next σ') h') (k : evSs Γ ss σ' h' = r) : evSs Γ (st :: ss) σ h = r := (ss_step e).trans k
theorem addL {x y : List T} (h : x.length + y.length < 2000) : opO .add (.lst x) (.lst y) = some (.lst (x ++ y)) := by
  have e : x.length + y.length ≤ lim := Nat.le_of_lt (ltlim h)
  simp only [opO, if_pos e]
theorem binAdd {Γ : Env} {a b : Ex} {σ : Sl} {h h1 h2 : Hm} {x y : List T} (ea : evE Γ a σ h = .ok (.lst x) h1) (eb : evE Γ b σ h1 = .ok (.lst y) h2) (hl : x.length + y.length < 2000) : evE Γ (.bin false .add a b) σ h = .ok (.lst (x ++ y)) h2 := by
  rw [evE, ea, R_ok, eb, R_ok, lk_lst, lk_lst, addL hl, ofO_s, R_ok, mkF]
theorem ev_lcp1 {Γ : Env} {g : Tg} {it : It} {cs : List Ex} {e : Ex} {σ : Sl} {h h1 : Hm} {xs : List T} (f : T → Option T) (hi : evI Γ it σ h = .ok xs h1) (hg : ∀ x ∈ xs, ∀ h', lcGo g (fun σ h => evBs Γ cs σ h) (fun σ h => evE Γ e σ h) x σ h' = .ok (f x) h') (hl : xs.length < lim) :
    evE Γ (.lc false g it cs e) σ h = .ok (.lst (xs.filterMap f)) (h1 ++ [none]) := by
  rw [evE, hi]
  exact lc_pure hg hl
def bad1 (L : List Item) : List T := [.non, .int 0, .tup [], .lst [], .dct [] [], .str [97], itsT L, .tup [itsT L], .tup [itsT L, .int 1], .tup [itsT L, .non], .tup [itsT L, .int 0], .tup [.lst (L.map itT), .bl true]]
def bad2 (L : List Item) (w : Bool) (it : T) : List T := [.lst [itsT L, .bl w], .tup [itsT L, .bl w, .bl true], .tup [.tup [it, it, it, it], .bl false], .tup [.tup [it, .non], .bl true], .tup [.non, .bl false]]
def odd1 : List T := [.tup [.str [], .str [111, 110, 101]], .tup [.str [98, 97], .str [111, 110, 101]], .tup [.str [97, 97], .str [97, 110, 121]], .tup [.str [65], .str [97, 110, 121]], .tup [.str [97], .str [79, 110, 101]], .tup [.str [97], .non], .tup [.str [97]], .str [97, 98]]
def odd2 : List T := [.tup [.str [97], .str [111, 110, 101], .int 1], .tup [.str [97, 32, 98], .str [111, 110, 101]], .tup [.tup [.str [97]], .str [111, 110, 101]], .tup [.non, .str [97, 110, 121]], .tup [.str [97], .lst [.str [97, 110, 121]]], .tup [.str [97, 49], .str [111, 110, 101]], .lst [.str [97], .str [111, 110, 101]]]
def bad3 : List T := odd1.map fun o => .tup [.tup [o], .bl false]
def bad4 (it : T) : List T := odd2.map fun o => .tup [.tup [it, o], .bl true]
def bad5 (it : T) : List T := [.tup [it, .bl false], .tup [.tup [.str [97], .str [111, 110, 101]], .bl true], .tup [.bl true, .bl true]]
def bad (L : List Item) (w : Bool) (it : T) : List T := bad1 L ++ bad2 L w it ++ bad3 ++ bad4 it ++ bad5 it
def it2 : List T := [.tup [.str [97], .str [111, 110, 101]], .tup [.str [98, 99], .str [97, 110, 121]]]
theorem nr3 {a b : T} (ha : nr a = true) (hb : nr b = true) : nr (.tup [a, b]) = true := by
  have e : nr (.tup [a, b]) = (true && (nr a && (nr b && true))) := rfl
  rw [e, ha, hb]; rfl
theorem bad_ok {L : List Item} (D : DP L) (w : Bool) {it : T} (hi : it ∈ it2) : ∀ v ∈ bad L w it, nr v = true ∧ isP v = false := by
  have nI := D.nrI
  have nM : nr (.lst (L.map itT)) = true := by
    have e : decide ((L.map itT).length ≤ 1000) = true := decide_eq_true (by rw [List.length_map]; have := D.few; omega)
    have e0 : nr (.lst (L.map itT)) = (decide ((L.map itT).length ≤ 1000) && K60.nrs (L.map itT)) := rfl
    rw [e0, e, D.nrs]; rfl
  intro v hv
  simp only [bad, List.mem_append] at hv
  rcases hv with (((hv | hv) | hv) | hv) | hv
  · simp only [bad1, List.mem_cons, List.not_mem_nil, or_false] at hv
    rcases hv with rfl | rfl | rfl | rfl | rfl | rfl | rfl | rfl | rfl | rfl | rfl | rfl
    · exact ⟨rfl, rfl⟩
    · exact ⟨rfl, rfl⟩
    · exact ⟨rfl, rfl⟩
    · exact ⟨rfl, rfl⟩
    · exact ⟨rfl, rfl⟩
    · exact ⟨rfl, rfl⟩
    · refine ⟨nI, ?_⟩
      match L with
      | [] => rfl
      | [_] => rfl
      | [(_, _), (_, _)] => rfl
      | (_, _) :: (_, _) :: _ :: _ => rfl
    · refine ⟨?_, rfl⟩
      have e : nr (.tup [itsT L]) = (true && (nr (itsT L) && true)) := rfl
      rw [e, nI]; rfl
    · exact ⟨nr3 nI rfl, rfl⟩
    · exact ⟨nr3 nI rfl, rfl⟩
    · exact ⟨nr3 nI rfl, rfl⟩
    · exact ⟨nr3 nM rfl, rfl⟩
  · have hit : nr it = true := by
      simp only [it2, List.mem_cons, List.not_mem_nil, or_false] at hi
      rcases hi with rfl | rfl <;> rfl
    simp only [bad2, List.mem_cons, List.not_mem_nil, or_false] at hv
    rcases hv with rfl | rfl | rfl | rfl | rfl
    · refine ⟨?_, rfl⟩
      have e : nr (.lst [itsT L, .bl w]) = (true && (nr (itsT L) && true)) := rfl
      rw [e, nI]; rfl
    · refine ⟨?_, rfl⟩
      have e : nr (.tup [itsT L, .bl w, .bl true]) = (true && (nr (itsT L) && true)) := rfl
      rw [e, nI]; rfl
    · refine ⟨nr3 ?_ rfl, rfl⟩
      have e : nr (.tup [it, it, it, it]) = (true && (nr it && (nr it && (nr it && (nr it && true))))) := rfl
      rw [e, hit]; rfl
    · refine ⟨nr3 (nr3 hit rfl) rfl, ?_⟩
      simp only [it2, List.mem_cons, List.not_mem_nil, or_false] at hi
      rcases hi with rfl | rfl <;> rfl
    · exact ⟨rfl, rfl⟩
  · have z : bad3.all (fun v => nr v && !isP v) = true := by decide +kernel
    have := List.all_eq_true.mp z v hv
    simp only [Bool.and_eq_true, Bool.not_eq_true'] at this
    exact this
  · have z : (bad4 it).all (fun v => nr v && !isP v) = true := by
      simp only [it2, List.mem_cons, List.not_mem_nil, or_false] at hi
      rcases hi with rfl | rfl <;> decide +kernel
    have := List.all_eq_true.mp z v hv
    simp only [Bool.and_eq_true, Bool.not_eq_true'] at this
    exact this
  · have z : (bad5 it).all (fun v => nr v && !isP v) = true := by
      simp only [it2, List.mem_cons, List.not_mem_nil, or_false] at hi
      rcases hi with rfl | rfl <;> decide +kernel
    have := List.all_eq_true.mp z v hv
    simp only [Bool.and_eq_true, Bool.not_eq_true'] at this
    exact this
/-- _law_bad_patterns -/
theorem sp28 (n j : Nat) (L : List Item) (w : Bool) (D : DP L) (a b c : Int) (h : Hm) (e : h[j]? = some (bag a b c)) :
    ∃ (it : T) (a' b' c' : Int), it ∈ it2 ∧ call Φ tf (n + 3) 28 [.ref j, patT L w] h = .ok (.lst (bad L w it)) (h.set j (bag a' b' c')) := by
  obtain ⟨it, a1, b1, c1, hi, q⟩ := sp18l n j it2 a b c h (by simp [it2]) (by simp [it2]) (fun t ht => by
    simp only [it2, List.mem_cons, List.not_mem_nil, or_false] at ht
    rcases ht with rfl | rfl <;> rfl) e
  refine ⟨it, a1, b1, c1, hi, ?_⟩
  have main : evSs ⟨call Φ tf (n + 2), tf⟩ b28 [some (.ref j), some (patT L w), none, none, none, none, none] h = .ok (.ret (.lst (bad L w it))) (h.set j (bag a1 b1 c1) ++ [none] ++ [none]) := by
    rw [b28]
    refine ss_stepT (σ' := [some (.ref j), some (patT L w), none, none, some (itsT L), some it, none]) (h' := h.set j (bag a1 b1 c1)) (asgS (.tup [itsT L, it]) ?_ rfl) ?_
    · have q' : call Φ tf (n + 2) 18 [.ref j, .lst [.tup [.str [97], .str [111, 110, 101]], .tup [.str [98, 99], .str [97, 110, 121]]]] h = _ := q
      simp only [evE, evEs, List.getElem?_cons_zero, List.getElem?_cons_succ, R_ok, lk_pat, ixP0, ofO_s, mkF, q']
    refine ss_stepT (σ' := [some (.ref j), some (patT L w), some (.lst (bad1 L)), none, some (itsT L), some it, none]) (h' := h.set j (bag a1 b1 c1)) (asgS (.lst (bad1 L)) ?_ rfl) ?_
    · have z : biO .list [itsT L] = some (.lst (L.map itT)) := rfl
      simp only [evE, evEs, List.getElem?_cons_zero, List.getElem?_cons_succ, R_ok, ofO_s, mkF, mk, List.map_cons, List.map_nil, lk_its, z, if_neg Bool.false_ne_true, bad1]
    refine ss_stepT (σ' := [some (.ref j), some (patT L w), some (.lst (bad1 L ++ bad2 L w it)), none, some (itsT L), some it, none]) (h' := h.set j (bag a1 b1 c1)) (asgS (.lst (bad1 L ++ bad2 L w it)) (binAdd rfl ?_ (by show 12 + 5 < 2000; decide)) rfl) ?_
    · have z : biO .list [patT L w] = some (.lst [itsT L, .bl w]) := rfl
      have z2 : opO .add (patT L w) (.tup [.bl true]) = some (.tup [itsT L, .bl w, .bl true]) := by
        have z3 : [itsT L, T.bl w].length + [T.bl true].length ≤ lim := by show 2 + 1 ≤ lim; decide
        simp only [patT, opO, if_pos z3, List.cons_append, List.nil_append]
      have z4 : opO .mul (.tup [it]) (.int 4) = some (.tup [it, it, it, it]) := by
        have z3 : [it].isEmpty = false ∧ (2 : Int) ≤ 4 ∧ (4 : Int) ≤ 1000 ∧ [it].length ≤ 1000 := ⟨rfl, by decide, by decide, by show 1 ≤ 1000; decide⟩
        simp only [opO, if_pos z3]
        rfl
      simp only [evE, evEs, List.getElem?_cons_zero, List.getElem?_cons_succ, R_ok, ofO_s, mkF, List.map_cons, List.map_nil, lk_pat, lk_tup, lk_int, z, z2, z4, bad2]
    refine ss_stepT (σ' := [some (.ref j), some (patT L w), some (.lst (bad1 L ++ bad2 L w it)), some (.lst odd1), some (itsT L), some it, none]) (h' := h.set j (bag a1 b1 c1)) (asgS (.lst odd1) ?_ rfl) ?_
    · simp only [evE, evEs, R_ok, mkF, odd1]
    refine ss_stepT (σ' := [some (.ref j), some (patT L w), some (.lst (bad1 L ++ bad2 L w it ++ bad3)), some (.lst odd1), some (itsT L), some it, none]) (h' := h.set j (bag a1 b1 c1) ++ [none]) (asgS (.lst (bad1 L ++ bad2 L w it ++ bad3)) (binAdd rfl ?_ (by show (12 + 5) + 8 < 2000; decide)) rfl) ?_
    · refine (ev_lcp1 (xs := odd1) (fun o => some (.tup [.tup [o], .bl false])) rfl (fun x hx h' => ?_) (by show 8 < lim; decide)).trans ?_
      · have pu : Tg.put (.v 6) x [some (.ref j), some (patT L w), some (.lst (bad1 L ++ bad2 L w it)), some (.lst odd1), some (itsT L), some it, none] = some [some (.ref j), some (patT L w), some (.lst (bad1 L ++ bad2 L w it)), some (.lst odd1), some (itsT L), some it, some x] := rfl
        simp only [lcGo, pu, evBs, R_ok, if_pos, evE, evEs, List.getElem?_cons_zero, List.getElem?_cons_succ]
      · rw [filterMap_some]; rfl
    refine ss_stepT (σ' := [some (.ref j), some (patT L w), some (.lst (bad1 L ++ bad2 L w it ++ bad3)), some (.lst odd2), some (itsT L), some it, none]) (h' := h.set j (bag a1 b1 c1) ++ [none]) (asgS (.lst odd2) ?_ rfl) ?_
    · simp only [evE, evEs, R_ok, mkF, odd2]
    refine ss_stepT (σ' := [some (.ref j), some (patT L w), some (.lst (bad1 L ++ bad2 L w it ++ bad3 ++ bad4 it)), some (.lst odd2), some (itsT L), some it, none]) (h' := h.set j (bag a1 b1 c1) ++ [none] ++ [none]) (asgS (.lst (bad1 L ++ bad2 L w it ++ bad3 ++ bad4 it)) (binAdd rfl ?_ (by show (12 + 5 + 8) + 7 < 2000; decide)) rfl) ?_
    · refine (ev_lcp1 (xs := odd2) (fun o => some (.tup [.tup [it, o], .bl true])) rfl (fun x hx h' => ?_) (by show 7 < lim; decide)).trans ?_
      · have pu : Tg.put (.v 6) x [some (.ref j), some (patT L w), some (.lst (bad1 L ++ bad2 L w it ++ bad3)), some (.lst odd2), some (itsT L), some it, none] = some [some (.ref j), some (patT L w), some (.lst (bad1 L ++ bad2 L w it ++ bad3)), some (.lst odd2), some (itsT L), some it, some x] := rfl
        simp only [lcGo, pu, evBs, R_ok, if_pos, evE, evEs, List.getElem?_cons_zero, List.getElem?_cons_succ]
      · rw [filterMap_some]; rfl
    refine ss_ret ?_
    rw [evS]
    have r := binAdd (Γ := ⟨call Φ tf (n + 2), tf⟩) (a := .v 2) (b := .lst false [.tup [.v 5, .c (.bl false)], .tup [.tup [.c (.str [97]), .c (.str [111, 110, 101])], .c (.bl true)], .tup [.c (.bl true), .c (.bl true)]]) (σ := [some (.ref j), some (patT L w), some (.lst (bad1 L ++ bad2 L w it ++ bad3 ++ bad4 it)), some (.lst odd2), some (itsT L), some it, none]) (h := h.set j (bag a1 b1 c1) ++ [none] ++ [none]) (h1 := h.set j (bag a1 b1 c1) ++ [none] ++ [none]) (h2 := h.set j (bag a1 b1 c1) ++ [none] ++ [none]) (x := bad1 L ++ bad2 L w it ++ bad3 ++ bad4 it) (y := bad5 it) rfl (by simp only [evE, evEs, List.getElem?_cons_zero, List.getElem?_cons_succ, R_ok, mkF, bad5]) (by show (12 + 5 + 8 + 7) + 3 < 2000; decide)
    rw [r]
    rfl
  rw [call_eq (d := ⟨2, 7, b28⟩) rfl rfl]
  have main' : evSs ⟨call Φ tf (n + 2), tf⟩ b28 (List.map some [T.ref j, patT L w] ++ List.replicate (7 - 2) none) h = _ := main
  rw [main', List.append_assoc]
  refine leave_set _ ?_ rfl
  have go : ∀ l : List T, (∀ v ∈ l, nr v = true) → T.unds h.length l = true := by
    intro l
    induction l with
    | nil => intro _; rfl
    | cons x l ih => intro hx; rw [T.unds, nr_und _ _ (hx x List.mem_cons_self), ih fun v hv => hx v (List.mem_cons_of_mem _ hv)]; rfl
  exact go _ fun v hv => (bad_ok D w hi v hv).1
end K60
end
/-! part K60o -/
section
set_option autoImplicit false
set_option linter.all false
set_option maxRecDepth 10000
/-! K60o: _law_refused_right. -/
namespace K60
open Tw
def BOOK : T := .str [98, 111, 111, 107]
def TEXT : T := .str [116, 101, 120, 116]
def RETD : T := .str [114, 101, 116, 117, 114, 110, 101, 100]
/-- what a call of fits .. gives, once told -/
structure Tl (n : Nat) (v t w : T) : Prop where
  a : ∀ h, tf 0 (call Φ tf (n + 5) 13 [v, t] h) = .ok w h
  b : ∀ h, tf 0 (call Φ tf (n + 5) 14 [v, t] h) = .ok w h
  c : ∀ h, tf 0 (call Φ tf (n + 5) 15 [v, t] h) = .ok w h
theorem tlB (n : Nat) {v t : T} (hv : nr v = true) (e : isP v = false) : Tl n v t BOOK :=
  ⟨fun h => by rw [sp13b n v t hv h e]; rfl, fun h => by rw [sp14b n v t hv h e]; rfl, fun h => by rw [sp15b n v t hv h e]; rfl⟩
theorem tlT (n : Nat) {v t : T} (hv : nr v = true) (ht : nr t = true) (e : isP v = true) (f : isTx t = false) : Tl n v t TEXT :=
  ⟨fun h => by rw [sp13t n v t hv ht h e f]; rfl, fun h => by rw [sp14t n v t hv ht h e f]; rfl, fun h => by rw [sp15t n v t hv ht h e f]; rfl⟩
theorem tlR (n : Nat) {L : List Item} (D : DP L) (w : Bool) {s : List Nat} (hs : nr (.str s) = true) (f : isTx (.str s) = true) : Tl n (patT L w) (.str s) RETD := by
  have hL : L.length < 50 := by have := D.few; omega
  exact ⟨fun h => by rw [sp13 n L w s h (D.nrP w) hs (D.isP w) f hL]; rfl, fun h => by rw [sp14 n L w s h (D.nrP w) hs (D.isP w) f hL]; rfl, fun h => by rw [sp15 n L w s h (D.nrP w) hs (D.isP w) f hL]; rfl⟩
def B29 : List St := [.ex (.me .append (.v 5) [.told 0 (.call 13 [.v 6, .v 7])]),
    .ex (.me .append (.v 5) [.told 0 (.call 14 [.v 6, .v 7])]),
    .ex (.me .append (.v 5) [.told 0 (.call 15 [.v 6, .v 7])])]
theorem lkE (h : Hm) (l : List T) : look (h ++ [some (MO.lst l)]) (.ref h.length) = .lst l := lkN h l
theorem bd29 (n : Nat) (A B C D E S8 : Option T) (v t w : T) (K : Tl n v t w) (h : Hm) (acc : List T) (hl : acc.length < 1000) :
    evSs ⟨call Φ tf (n + 5), tf⟩ B29 [A, B, C, D, E, some (.ref h.length), some v, some t, S8] (h ++ [some (.lst acc)]) = .ok (.next [A, B, C, D, E, some (.ref h.length), some v, some t, S8]) (h ++ [some (.lst (acc ++ [w, w, w]))]) := by
  have st : ∀ (f : Nat) (acc : List T), acc.length < 1010 → (∀ h, tf 0 (call Φ tf (n + 5) f [v, t] h) = .ok w h) → evS ⟨call Φ tf (n + 5), tf⟩ (.ex (.me .append (.v 5) [.told 0 (.call f [.v 6, .v 7])])) [A, B, C, D, E, some (.ref h.length), some v, some t, S8] (h ++ [some (.lst acc)]) = .ok (.next [A, B, C, D, E, some (.ref h.length), some v, some t, S8]) (h ++ [some (.lst (acc ++ [w]))]) := by
    intro f acc ha k
    have z : acc.length < lim := ltlim (by omega)
    simp only [evS, evE, evEs, List.getElem?_cons_zero, List.getElem?_cons_succ, R_ok, lkE, meOk, if_pos, k, apN _ _ _ z]
  rw [B29]
  refine ss_stepT (st 13 acc (by omega) K.a) (ss_stepT (st 14 _ (by simp; omega) K.b) (ss_stepT (st 15 _ (by simp; omega) K.c) ?_))
  rw [evSs]
  simp only [List.append_assoc, List.cons_append, List.nil_append]
theorem eqo (n : Nat) : True := trivial
def off : List T := [.non, .int 0, .str [65], .str [97, 32, 98], .str (rep [97] 61), .lst [.str [97]], .tup [.str [97]], .str [97, 10], .dct [] [], .bl true, .str [97, 49]]
theorem off_ok : ∀ v ∈ off, nr v = true ∧ isTx v = false := by
  intro v hv
  have z : off.all (fun v => nr v && !isTx v) = true := by decide +kernel
  have := List.all_eq_true.mp z v hv
  simp only [Bool.and_eq_true, Bool.not_eq_true'] at this
  exact this
def told12 : List T := [BOOK, BOOK, BOOK, BOOK, BOOK, BOOK, TEXT, TEXT, TEXT, RETD, RETD, RETD]
theorem mul61 : opO .mul (.str [97]) (.int 61) = some (.str (rep [97] 61)) := by
  have e : [97].length * (61 : Int).toNat ≤ lim ∧ (61 : Int) ≤ 1000000 ∧ (-1000000 : Int) ≤ 61 := by decide
  simp only [opO, if_pos e]
theorem mulL (x : T) (k : Int) (h0 : 0 ≤ k) (h1 : k < 100) : opO .mul (.lst [x]) (.int k) = some (.lst (rep [x] k)) := by
  have e : [x].length * k.toNat ≤ lim ∧ k ≤ 1000000 ∧ -1000000 ≤ k := ⟨by show (0 + 1) * k.toNat ≤ lim; unfold lim; omega, by omega, by omega⟩
  simp only [opO, if_pos e]
theorem evW (Γ : Env) (σ : Sl) (h : Hm) : evE Γ (.bin false .add (.bin false .add (.bin false .mul (.lst false [.c (.str [98, 111, 111, 107])]) (.c (.int 6))) (.bin false .mul (.lst false [.c (.str [116, 101, 120, 116])]) (.c (.int 3)))) (.bin false .mul (.lst false [.c (.str [114, 101, 116, 117, 114, 110, 101, 100])]) (.c (.int 3)))) σ h = .ok (.lst told12) h := by
  have m (x : T) (k : Int) (h0 : 0 ≤ k) (h1 : k < 100) : evE Γ (.bin false .mul (.lst false [.c x]) (.c (.int k))) σ h = .ok (.lst (rep [x] k)) h := by
    simp only [evE, evEs, R_ok, mkF, lk_lst, lk_int, mulL x k h0 h1, ofO_s]
  exact binAdd (binAdd (m _ 6 (by omega) (by omega)) (m _ 3 (by omega) (by omega)) (by decide)) (m _ 3 (by omega) (by omega)) (by decide)
theorem ne12 : cmO .ne (.lst told12) (.lst told12) = some false := by decide +kernel
/-- _law_refused_right -/
theorem sp29 (n j : Nat) (L : List Item) (w : Bool) (D : DP L) (s : List Nat) (hs : nr (.str s) = true) (hx : isTx (.str s) = true) (a b c : Int) (h : Hm) (e : h[j]? = some (bag a b c)) :
    ∃ (a' b' c' : Int), call Φ tf (n + 6) 29 [.ref j, patT L w, .str s] h = .ok (.bl true) (h.set j (bag a' b' c')) := by
  obtain ⟨it, a1, b1, c1, hi, q1⟩ := sp28 (n + 2) j L w D a b c h e
  have e1 := set_bag e (bag a1 b1 c1)
  obtain ⟨v, a2, b2, c2, hv, q2⟩ := sp18l (n + 3) j (bad L w it) a1 b1 c1 _ (by simp [bad, bad1]) (by show 12 + 5 + 8 + 7 + 3 < 1000; decide) (fun t ht => nr_und _ _ (bad_ok D w hi t ht).1) e1
  rw [set_set] at q2
  have e2 := set_bag e (bag a2 b2 c2)
  obtain ⟨o, a3, b3, c3, ho, q3⟩ := sp18l (n + 3) j off a2 b2 c2 _ (by simp [off]) (by simp [off]) (fun t ht => nr_und _ _ (off_ok t ht).1) e2
  rw [set_set] at q3
  have e3 := set_bag e (bag a3 b3 c3)
  obtain ⟨nv, pv⟩ := bad_ok D w hi v hv
  obtain ⟨no, xo⟩ := off_ok o ho
  obtain ⟨H, hH⟩ : ∃ H, H = h.set j (bag a3 b3 c3) := ⟨_, rfl⟩
  have hlen : h.length = H.length := by rw [hH, List.length_set]
  rw [← hH] at e3 q3
  obtain ⟨it', a4, b4, c4, hi', q4⟩ := sp28 (n + 2) j L w D a3 b3 c3 (H ++ [some (.lst told12)]) (app_at e3 _)
  rw [set_app e3] at q4
  refine ⟨a4, b4, c4, ?_⟩
  have K1 : Tl n v (.str s) BOOK := tlB n nv pv
  have K2 : Tl n v o BOOK := tlB n nv pv
  have K3 : Tl n (patT L w) o TEXT := tlT n (D.nrP w) no (D.isP w) xo
  have K4 : Tl n (patT L w) (.str s) RETD := tlR n D w hs hx
  have main : evSs ⟨call Φ tf (n + 5), tf⟩ b29 [some (.ref j), some (patT L w), some (.str s), none, none, none, none, none, none] h = .ok (.ret (.bl true)) (H.set j (bag a4 b4 c4) ++ [some (.lst told12)] ++ [none]) := by
    rw [b29]
    refine ss_stepT (σ' := [some (.ref j), some (patT L w), some (.str s), some v, none, none, none, none, none]) (h' := h.set j (bag a2 b2 c2)) (asgS v ?_ rfl) ?_
    · simp only [evE, evEs, List.getElem?_cons_zero, List.getElem?_cons_succ, R_ok, q1, q2]
    refine ss_stepT (σ' := [some (.ref j), some (patT L w), some (.str s), some v, some o, none, none, none, none]) (h' := H) (asgS o ?_ rfl) ?_
    · have q3' : call Φ tf (n + 5) 18 [.ref j, .lst [.non, .int 0, .str [65], .str [97, 32, 98], .str (rep [97] 61), .lst [.str [97]], .tup [.str [97]], .str [97, 10], .dct [] [], .bl true, .str [97, 49]]] (h.set j (bag a2 b2 c2)) = _ := q3
      simp only [evE, evEs, List.getElem?_cons_zero, List.getElem?_cons_succ, R_ok, lk_str, lk_int, mul61, ofO_s, mkF, q3']
    refine ss_stepT (σ' := [some (.ref j), some (patT L w), some (.str s), some v, some o, some (.ref H.length), none, none, none]) (h' := H ++ [some (.lst [])]) (asgS (.ref H.length) rfl rfl) ?_
    refine ss_stepT (σ' := [some (.ref j), some (patT L w), some (.str s), some v, some o, some (.ref H.length), some (patT L w), some (.str s), none]) (h' := H ++ [some (.lst told12)]) ?_ ?_
    · rw [evS]
      have i1 : evI ⟨call Φ tf (n + 5), tf⟩ (.e (.tup [.tup [.v 3, .v 2], .tup [.v 3, .v 4], .tup [.v 1, .v 4], .tup [.v 1, .v 2]])) [some (.ref j), some (patT L w), some (.str s), some v, some o, some (.ref H.length), none, none, none] (H ++ [some (.lst [])]) = .ok [.tup [v, .str s], .tup [v, o], .tup [patT L w, o], .tup [patT L w, .str s]] (H ++ [some (.lst [])]) := rfl
      rw [i1, R_ok]
      have pu : ∀ (x y : T) (s6 s7 : Option T), Tg.put (.u [.v 6, .v 7]) (.tup [x, y]) [some (.ref j), some (patT L w), some (.str s), some v, some o, some (.ref H.length), s6, s7, none] = some [some (.ref j), some (patT L w), some (.str s), some v, some o, some (.ref H.length), some x, some y, none] := fun _ _ _ _ => rfl
      have t1 := bd29 n (some (.ref j)) (some (patT L w)) (some (.str s)) (some v) (some o) none v (.str s) BOOK K1 H [] (by simp)
      have t2 := bd29 n (some (.ref j)) (some (patT L w)) (some (.str s)) (some v) (some o) none v o BOOK K2 H ([] ++ [BOOK, BOOK, BOOK]) (by simp)
      have t3 := bd29 n (some (.ref j)) (some (patT L w)) (some (.str s)) (some v) (some o) none (patT L w) o TEXT K3 H (([] ++ [BOOK, BOOK, BOOK]) ++ [BOOK, BOOK, BOOK]) (by simp)
      have t4 := bd29 n (some (.ref j)) (some (patT L w)) (some (.str s)) (some v) (some o) none (patT L w) (.str s) RETD K4 H ((([] ++ [BOOK, BOOK, BOOK]) ++ [BOOK, BOOK, BOOK]) ++ [TEXT, TEXT, TEXT]) (by simp)
      rw [B29] at t1 t2 t3 t4
      simp only [forLoop, pu, t1, t2, t3, t4, R_ok]
      rfl
    have p5 := sp5 (n + 2) (patT L w) (D.nrP w)
    rw [D.isP w] at p5
    refine ss_stepT (σ' := [some (.ref j), some (patT L w), some (.str s), some v, some o, some (.ref H.length), some (patT L w), some (.str s), none]) (h' := H ++ [some (.lst told12)]) ?_ ?_
    · have z : ∀ h, evB ⟨call Φ tf (n + 5), tf⟩ (.cmp .isnt (.call 5 [.v 1]) (.c (.bl true))) [some (.ref j), some (patT L w), some (.str s), some v, some o, some (.ref H.length), some (patT L w), some (.str s), none] h = .ok false h := fun h => by
        have z2 : cmO .isnt (.bl true) (.bl true) = some false := rfl
        simp only [evB, evE, evEs, List.getElem?_cons_zero, List.getElem?_cons_succ, R_ok, p5, lk_bl, z2, ofO_s]
      have z3 : evB ⟨call Φ tf (n + 5), tf⟩ (.cmp .ne (.v 5) (.bin false .add (.bin false .add (.bin false .mul (.lst false [.c (.str [98, 111, 111, 107])]) (.c (.int 6))) (.bin false .mul (.lst false [.c (.str [116, 101, 120, 116])]) (.c (.int 3)))) (.bin false .mul (.lst false [.c (.str [114, 101, 116, 117, 114, 110, 101, 100])]) (.c (.int 3))))) [some (.ref j), some (patT L w), some (.str s), some v, some o, some (.ref H.length), some (patT L w), some (.str s), none] (H ++ [some (.lst told12)]) = .ok false (H ++ [some (.lst told12)]) := by
        have z4 : evE ⟨call Φ tf (n + 5), tf⟩ (.v 5) [some (.ref j), some (patT L w), some (.str s), some v, some o, some (.ref H.length), some (patT L w), some (.str s), none] (H ++ [some (.lst told12)]) = .ok (.ref H.length) (H ++ [some (.lst told12)]) := rfl
        rw [evB, z4, R_ok, evW, R_ok, lkE, lk_lst, ne12, ofO_s]
      rw [evS, orB z3 (z _)]
      rfl
    refine ss_ret ?_
    rw [evS]
    have q4' := q4
    have lc : evE ⟨call Φ tf (n + 5), tf⟩ (.lc false (.v 8) (.e (.call 28 [.v 0, .v 1])) [.cmp .isnt (.call 5 [.v 8]) (.c (.bl false))] (.v 8)) [some (.ref j), some (patT L w), some (.str s), some v, some o, some (.ref H.length), some (patT L w), some (.str s), none] (H ++ [some (.lst told12)]) = .ok (.lst []) (H.set j (bag a4 b4 c4) ++ [some (.lst told12)] ++ [none]) := by
      refine (ev_lcp1 (xs := bad L w it') (h1 := H.set j (bag a4 b4 c4) ++ [some (.lst told12)]) (fun _ => none) ?_ (fun x hx h' => ?_) (ltlim (by show 12 + 5 + 8 + 7 + 3 < 2000; decide))).trans ?_
      · simp only [evI, evE, evEs, List.getElem?_cons_zero, List.getElem?_cons_succ, R_ok, q4', itemsO, ofO_s]
      · obtain ⟨nx, px⟩ := bad_ok D w hi' x hx
        have p5x := sp5 (n + 2) x nx
        rw [px] at p5x
        have z2 : cmO .isnt (.bl false) (.bl false) = some false := rfl
        have pu : Tg.put (.v 8) x [some (.ref j), some (patT L w), some (.str s), some v, some o, some (.ref H.length), some (patT L w), some (.str s), none] = some [some (.ref j), some (patT L w), some (.str s), some v, some o, some (.ref H.length), some (patT L w), some (.str s), some x] := rfl
        simp only [lcGo, pu, evBs, evB, evE, evEs, List.getElem?_cons_zero, List.getElem?_cons_succ, R_ok, p5x, lk_bl, z2, ofO_s, if_neg Bool.false_ne_true]
      · have z : (bad L w it').filterMap (fun _ => (none : Option T)) = [] := by simp
        rw [z]
    have z5 : cmO .eq (.lst []) (.lst []) = some true := rfl
    rw [evE, lc, R_ok]
    simp only [evE, evEs, R_ok, mkF, lk_lst, z5, Option.map_some, ofO_s]
  rw [call_eq (d := ⟨3, 9, b29⟩) rfl rfl]
  have main' : evSs ⟨call Φ tf (n + 5), tf⟩ b29 (List.map some [T.ref j, patT L w, .str s] ++ List.replicate (9 - 3) none) h = _ := main
  rw [main', List.append_assoc, hH, set_set]
  exact leave_set _ rfl rfl
end K60
end
/-! part K60r -/
section
set_option autoImplicit false
set_option linter.all false
set_option maxRecDepth 10000
/-! K60r: the law's own body: the plain law k60. -/
namespace K60
open Tw
/-- fitw, by a number that falls -/
def fitF (w : Bool) : Nat → List Item → List Nat → Bool
  | 0, _, _ => false
  | _ + 1, [], t => !w || t.isEmpty
  | _ + 1, (_, false) :: _, [] => false
  | n + 1, (ls, false) :: is, c :: t => ls.contains c && fitF w n is t
  | n + 1, (_, true) :: is, [] => fitF w n is []
  | n + 1, (ls, true) :: is, c :: t => fitF w n is (c :: t) || (ls.contains c && fitF w n ((ls, true) :: is) t)
theorem fitF_eq (w : Bool) : ∀ (N : Nat) (is : List Item) (t : List Nat), is.length + t.length < N → fitF w N is t = fitw w is t
  | 0, _, _, h => absurd h (Nat.not_lt_zero _)
  | N + 1, [], t, _ => by rw [fitw, fitF]
  | N + 1, (_, false) :: _, [], _ => by rw [fitw, fitF]
  | N + 1, (ls, false) :: is, c :: t, h => by rw [fitw, fitF, fitF_eq w N is t (by simp at h ⊢; omega)]
  | N + 1, (_, true) :: is, [], h => by rw [fitw, fitF, fitF_eq w N is [] (by simp at h ⊢; omega)]
  | N + 1, (ls, true) :: is, c :: t, h => by rw [fitw, fitF, fitF_eq w N is (c :: t) (by simp at h ⊢; omega), fitF_eq w N ((ls, true) :: is) t (by simp at h ⊢; omega)]
/-! ### one turn of the law's inner loop -/
def BI : List St := [.asg (.v 4) (.call 21 [.v 5, .call 18 [.v 5, .lst false [.c (.str [97]), .c (.str [97, 98]), .c (.str [97, 98, 99]), .c (.str [97, 98, 99, 122])]]]),
    .asg (.v 7) (.call 26 [.v 5, .v 4]),
    .asg (.v 8) (.lst false [.v 7, .c (.str []), .call 26 [.v 5, .v 4], .call 19 [.v 5, .c (.str [97, 98, 99]), .c (.int 8)]]),
    .if_ (.cmp .ne (.lc false (.v 9) (.e (.v 8)) [.not (.call 27 [.v 4, .v 9])] (.v 9)) (.lst false [])) [.ret (.c (.bl false))] [],
    .if_ (.not (.call 29 [.v 5, .v 4, .v 7])) [.ret (.c (.bl false))] []]
def sgs : List T := [.str [97], .str [97, 98], .str [97, 98, 99], .str [97, 98, 99, 122]]
theorem sg_all (t : T) (h : t ∈ sgs) : ∃ s, Sg s ∧ t = .str s := by
  simp only [sgs, List.mem_cons, List.not_mem_nil, or_false] at h
  rcases h with rfl | rfl | rfl | rfl
  · exact ⟨_, ⟨by decide, by decide, by decide, by decide⟩, rfl⟩
  · exact ⟨_, ⟨by decide, by decide, by decide, by decide⟩, rfl⟩
  · exact ⟨_, ⟨by decide, by decide, by decide, by decide⟩, rfl⟩
  · exact ⟨_, ⟨by decide, by decide, by decide, by decide⟩, rfl⟩
theorem bdI (j : Nat) (A B C D S4 S6 S7 S8 S9 : Option T) (h : Hm) (a b c : Int) (e : h[j]? = some (bag a b c)) :
    ∃ (S4' S7' S8' : Option T) (h' : Hm) (a' b' c' : Int), h'[j]? = some (bag a' b' c') ∧ evSs ⟨call Φ tf 59, tf⟩ BI [A, B, C, D, S4, some (.ref j), S6, S7, S8, S9] h = .ok (.next [A, B, C, D, S4', some (.ref j), S6, S7', S8', S9]) h' := by
  obtain ⟨t, a1, b1, c1, ht, q1⟩ := sp18l 57 j sgs a b c h (by simp [sgs]) (by simp [sgs]) (fun t ht => by obtain ⟨s, _, rfl⟩ := sg_all t ht; rfl) e
  obtain ⟨s, S, rfl⟩ := sg_all t ht
  obtain ⟨L, w, a2, b2, c2, D2, q2⟩ := sp21 55 j s S a1 b1 c1 _ (set_bag e (bag a1 b1 c1))
  rw [set_set] at q2
  obtain ⟨u, a3, b3, c3, wu, q3⟩ := sp26 55 j L w D2 a2 b2 c2 _ (set_bag e (bag a2 b2 c2))
  rw [set_set] at q3
  obtain ⟨v, a4, b4, c4, wv, q4⟩ := sp26 55 j L w D2 a3 b3 c3 _ (set_bag e (bag a3 b3 c3))
  rw [set_set] at q4
  obtain ⟨x, a5, b5, c5, hx, hx2, q5⟩ := sp19 56 j [97, 98, 99] 8 a4 b4 c4 _ (by simp) (by simp) (by omega) (set_bag e (bag a4 b4 c4))
  rw [set_set] at q5
  have wx : Wd 8 x := ⟨hx, fun y hy => abc3 y (hx2 y hy)⟩
  have e5 : (h.set j (bag a5 b5 c5) ++ [none])[j]? = some (bag a5 b5 c5) := app_at (set_bag e _) _
  obtain ⟨a6, b6, c6, q6⟩ := sp29 53 j L w D2 u (wu.tx (by omega)).2 (wu.tx (by omega)).1 a5 b5 c5 _ e5
  refine ⟨some (patT L w), some (.str u), some (.lst [.str u, .str [], .str v, .str x]), _, a6, b6, c6, set_bag e5 _, ?_⟩
  rw [BI]
  refine ss_stepT (σ' := [A, B, C, D, some (patT L w), some (.ref j), S6, S7, S8, S9]) (h' := h.set j (bag a2 b2 c2)) (asgS (patT L w) ?_ rfl) ?_
  · have q1' : call Φ tf 59 18 [.ref j, .lst [.str [97], .str [97, 98], .str [97, 98, 99], .str [97, 98, 99, 122]]] h = _ := q1
    simp only [evE, evEs, List.getElem?_cons_zero, List.getElem?_cons_succ, R_ok, mkF, q1', q2]
  refine ss_stepT (σ' := [A, B, C, D, some (patT L w), some (.ref j), S6, some (.str u), S8, S9]) (h' := h.set j (bag a3 b3 c3)) (asgS (.str u) ?_ rfl) ?_
  · simp only [evE, evEs, List.getElem?_cons_zero, List.getElem?_cons_succ, R_ok, q3]
  refine ss_stepT (σ' := [A, B, C, D, some (patT L w), some (.ref j), S6, some (.str u), some (.lst [.str u, .str [], .str v, .str x]), S9]) (h' := h.set j (bag a5 b5 c5)) (asgS (.lst [.str u, .str [], .str v, .str x]) ?_ rfl) ?_
  · have q5' : call Φ tf 59 19 [.ref j, .str [97, 98, 99], .int 8] (h.set j (bag a4 b4 c4)) = _ := q5
    simp only [evE, evEs, List.getElem?_cons_zero, List.getElem?_cons_succ, R_ok, mkF, q4, q5']
  refine ss_stepT (σ' := [A, B, C, D, some (patT L w), some (.ref j), S6, some (.str u), some (.lst [.str u, .str [], .str v, .str x]), S9]) (h' := h.set j (bag a5 b5 c5) ++ [none]) ?_ ?_
  · have all4 : ∀ t ∈ [T.str u, .str [], .str v, .str x], ∃ z, Wd 10 z ∧ t = .str z := by
      intro t ht
      simp only [List.mem_cons, List.not_mem_nil, or_false] at ht
      rcases ht with rfl | rfl | rfl | rfl
      · exact ⟨_, wu, rfl⟩
      · exact ⟨_, ⟨Nat.zero_le _, fun x hx => absurd hx List.not_mem_nil⟩, rfl⟩
      · exact ⟨_, wv, rfl⟩
      · exact ⟨_, wx.mono (by omega), rfl⟩
    have lc : evE ⟨call Φ tf 59, tf⟩ (.lc false (.v 9) (.e (.v 8)) [.not (.call 27 [.v 4, .v 9])] (.v 9)) [A, B, C, D, some (patT L w), some (.ref j), S6, some (.str u), some (.lst [.str u, .str [], .str v, .str x]), S9] (h.set j (bag a5 b5 c5)) = .ok (.lst []) (h.set j (bag a5 b5 c5) ++ [none]) := by
      refine (ev_lcp1 (xs := [.str u, .str [], .str v, .str x]) (h1 := h.set j (bag a5 b5 c5)) (fun _ => none) rfl (fun y hy h' => ?_) (ltlim (by simp))).trans ?_
      · obtain ⟨z, wz, rfl⟩ := all4 y hy
        have lz := wz.few
        have D3 := D2.few
        have r27 := sp27 57 L w z h' (D2.nrP w) (wz.tx (by omega)).2 (D2.isP w) (wz.tx (by omega)).1 (by omega) (by omega) (by omega) (by omega)
        have pu : Tg.put (.v 9) (.str z) [A, B, C, D, some (patT L w), some (.ref j), S6, some (.str u), some (.lst [.str u, .str [], .str v, .str x]), S9] = some [A, B, C, D, some (patT L w), some (.ref j), S6, some (.str u), some (.lst [.str u, .str [], .str v, .str x]), some (.str z)] := rfl
        simp only [lcGo, pu, evBs, evB, evE, evEs, List.getElem?_cons_zero, List.getElem?_cons_succ, R_ok, r27, lk_bl, tr_bl, ofO_s, Bool.not_true, if_neg Bool.false_ne_true]
      · have z : [T.str u, .str [], .str v, .str x].filterMap (fun _ => (none : Option T)) = [] := by simp
        rw [z]
    have z5 : cmO .ne (.lst []) (.lst []) = some false := rfl
    have lcB : evB ⟨call Φ tf 59, tf⟩ (.cmp .ne (.lc false (.v 9) (.e (.v 8)) [.not (.call 27 [.v 4, .v 9])] (.v 9)) (.lst false [])) [A, B, C, D, some (patT L w), some (.ref j), S6, some (.str u), some (.lst [.str u, .str [], .str v, .str x]), S9] (h.set j (bag a5 b5 c5)) = .ok false (h.set j (bag a5 b5 c5) ++ [none]) := by
      rw [evB, lc, R_ok]
      simp only [evE, evEs, R_ok, mkF, lk_lst, z5, ofO_s]
    rw [evS, lcB]
    rfl
  refine ss_stepT (σ' := [A, B, C, D, some (patT L w), some (.ref j), S6, some (.str u), some (.lst [.str u, .str [], .str v, .str x]), S9]) ?_ rfl
  have q6' : call Φ tf 59 29 [.ref j, patT L w, .str u] _ = _ := q6
  simp only [evS, evB, evE, evEs, List.getElem?_cons_zero, List.getElem?_cons_succ, R_ok, q6', lk_bl, tr_bl, ofO_s, Bool.not_true, if_neg Bool.false_ne_true, evSs]
theorem lpI (j : Nat) (A B C D : Option T) : ∀ (xs : List T) (S4 S6 S7 S8 S9 : Option T) (h : Hm) (a b c : Int), h[j]? = some (bag a b c) →
    ∃ (S4' S6' S7' S8' : Option T) (h' : Hm), forLoop (.v 6) (fun σ h => evSs ⟨call Φ tf 59, tf⟩ BI σ h) xs [A, B, C, D, S4, some (.ref j), S6, S7, S8, S9] h = .ok (.next [A, B, C, D, S4', some (.ref j), S6', S7', S8', S9]) h'
  | [], S4, S6, S7, S8, S9, h, a, b, c, _ => ⟨S4, S6, S7, S8, h, rfl⟩
  | x :: xs, S4, S6, S7, S8, S9, h, a, b, c, e => by
    obtain ⟨T4, T7, T8, h1, a1, b1, c1, e1, r⟩ := bdI j A B C D S4 (some x) S7 S8 S9 h a b c e
    obtain ⟨U4, U6, U7, U8, h2, r2⟩ := lpI j A B C D xs T4 (some x) T7 T8 S9 h1 a1 b1 c1 e1
    refine ⟨U4, U6, U7, U8, h2, ?_⟩
    have pu : Tg.put (.v 6) x [A, B, C, D, S4, some (.ref j), S6, S7, S8, S9] = some [A, B, C, D, S4, some (.ref j), some x, S7, S8, S9] := rfl
    rw [forLoop]
    simp only [pu, r, R_ok]
    exact r2
def BO : List St := [.asg (.v 5) (.call 16 [.v 0, .v 1]), .for_ (.v 6) (.range [.c (.int 4)]) BI]
theorem lpO (ns : List Int) (C D S9 : Option T) : ∀ (ks : List Nat) (S1 S4 S5 S6 S7 S8 : Option T) (h : Hm),
    ∃ (S1' S4' S5' S6' S7' S8' : Option T) (h' : Hm), forLoop (.v 1) (fun σ h => evSs ⟨call Φ tf 59, tf⟩ BO σ h) (ks.map iT) [some (.lst (ns.map .int)), S1, C, D, S4, S5, S6, S7, S8, S9] h = .ok (.next [some (.lst (ns.map .int)), S1', C, D, S4', S5', S6', S7', S8', S9]) h'
  | [], S1, S4, S5, S6, S7, S8, h => ⟨S1, S4, S5, S6, S7, S8, h, rfl⟩
  | k :: ks, S1, S4, S5, S6, S7, S8, h => by
    obtain ⟨a, b, c, q⟩ := sp16 58 ns k h
    have e : (h ++ [bag a b c])[h.length]? = some (bag a b c) := by rw [List.getElem?_append_right (Nat.le_refl _), Nat.sub_self]; rfl
    obtain ⟨T4, T6, T7, T8, h1, r⟩ := lpI h.length (some (.lst (ns.map .int))) (some (iT k)) C D [.int 0, .int 1, .int 2, .int 3] S4 S6 S7 S8 S9 _ a b c e
    obtain ⟨U1, U4, U5, U6, U7, U8, h2, r2⟩ := lpO ns C D S9 ks (some (iT k)) T4 (some (.ref h.length)) T6 T7 T8 h1
    refine ⟨U1, U4, U5, U6, U7, U8, h2, ?_⟩
    have pu : Tg.put (.v 1) (iT k) [some (.lst (ns.map .int)), S1, C, D, S4, S5, S6, S7, S8, S9] = some [some (.lst (ns.map .int)), some (iT k), C, D, S4, S5, S6, S7, S8, S9] := rfl
    have st : evSs ⟨call Φ tf 59, tf⟩ BO [some (.lst (ns.map .int)), some (iT k), C, D, S4, S5, S6, S7, S8, S9] h = .ok (.next [some (.lst (ns.map .int)), some (iT k), C, D, T4, some (.ref h.length), T6, T7, T8, S9]) h1 := by
      rw [BO]
      refine ss_stepT (σ' := [some (.lst (ns.map .int)), some (iT k), C, D, S4, some (.ref h.length), S6, S7, S8, S9]) (h' := h ++ [bag a b c]) (asgS (.ref h.length) ?_ rfl) ?_
      · have q' : call Φ tf 59 16 [.lst (ns.map .int), iT k] h = _ := q
        simp only [evE, evEs, List.getElem?_cons_zero, List.getElem?_cons_succ, R_ok, q']
      refine ss_stepT (σ' := [some (.lst (ns.map .int)), some (iT k), C, D, T4, some (.ref h.length), T6, T7, T8, S9]) (h' := h1) ?_ rfl
      have i1 : evI ⟨call Φ tf 59, tf⟩ (.range [.c (.int 4)]) [some (.lst (ns.map .int)), some (iT k), C, D, S4, some (.ref h.length), S6, S7, S8, S9] (h ++ [bag a b c]) = .ok [.int 0, .int 1, .int 2, .int 3] (h ++ [bag a b c]) := by
        have z : evEs ⟨call Φ tf 59, tf⟩ [.c (.int 4)] [some (.lst (ns.map .int)), some (iT k), C, D, S4, some (.ref h.length), S6, S7, S8, S9] (h ++ [bag a b c]) = .ok [.int 4] (h ++ [bag a b c]) := rfl
        rw [evI, z, R_ok, show rngO [.int 4] = some [.int 0, .int 1, .int 2, .int 3] from rfl, ofO_s]
      rw [evS, i1]
      exact r
    rw [List.map_cons, forLoop]
    simp only [pu, st, R_ok]
    exact r2
/-! ### the law's end: written patterns -/
def wI : List Item := [(abc, true), ([122], false)]
def wide : T := patT wI false
theorem wD : nr (patT wI false) = true ∧ isP (patT wI false) = true ∧ nr (patT wI true) = true ∧ isP (patT wI true) = true := by decide +kernel
theorem mulA (k : Int) (h0 : 0 ≤ k) (h1 : k < 100) (y : Nat) : opO .mul (.str [y]) (.int k) = some (.str (rep [y] k)) := by
  have e : [y].length * k.toNat ≤ lim ∧ k ≤ 1000000 ∧ -1000000 ≤ k := ⟨by show (0 + 1) * k.toNat ≤ lim; unfold lim; omega, by omega, by omega⟩
  simp only [opO, if_pos e]
theorem c14 (n : Nat) (L : List Item) (w : Bool) (s : List Nat) (r : Bool) (z : (nr (patT L w) && isP (patT L w) && nr (.str s) && isTx (.str s) && decide (L.length < 50) && decide (L.length + s.length < 100) && (fitF w 100 L s == r)) = true) (h : Hm) : call Φ tf (n + 5) 14 [patT L w, .str s] h = .ok (.bl r) h := by
  simp only [Bool.and_eq_true, decide_eq_true_eq, beq_iff_eq] at z
  obtain ⟨⟨⟨⟨⟨⟨z1, z2⟩, z3⟩, z4⟩, z5⟩, z6⟩, z7⟩ := z
  rw [sp14 n L w s h z1 z3 z2 z4 z5, ← fitF_eq w 100 L s z6, z7]
theorem c13 (n : Nat) (L : List Item) (w : Bool) (s : List Nat) (r : Bool) (z : (nr (patT L w) && isP (patT L w) && nr (.str s) && isTx (.str s) && decide (L.length < 50) && decide (L.length + s.length < 100) && (fitF true 100 L s == r)) = true) (h : Hm) : call Φ tf (n + 5) 13 [patT L w, .str s] h = .ok (.bl r) h := by
  simp only [Bool.and_eq_true, decide_eq_true_eq, beq_iff_eq] at z
  obtain ⟨⟨⟨⟨⟨⟨z1, z2⟩, z3⟩, z4⟩, z5⟩, z6⟩, z7⟩ := z
  rw [sp13 n L w s h z1 z3 z2 z4 z5, ← fitF_eq true 100 L s z6, z7]
theorem c15 (n : Nat) (L : List Item) (w : Bool) (s : List Nat) (r : Bool) (z : (nr (patT L w) && isP (patT L w) && nr (.str s) && isTx (.str s) && decide (L.length < 50) && decide (L.reverse.length + s.reverse.length < 100) && (fitF w 100 L.reverse s.reverse == r)) = true) (h : Hm) : call Φ tf (n + 5) 15 [patT L w, .str s] h = .ok (.bl r) h := by
  simp only [Bool.and_eq_true, decide_eq_true_eq, beq_iff_eq] at z
  obtain ⟨⟨⟨⟨⟨⟨z1, z2⟩, z3⟩, z4⟩, z5⟩, z6⟩, z7⟩ := z
  rw [sp15 n L w s h z1 z3 z2 z4 z5, ← fitF_eq w 100 _ _ z6, z7]
def a59z : List Nat := rep [97] 59 ++ [122]
theorem wd1 (h : Hm) : call Φ tf 59 14 [wide, .str (rep [97] 59 ++ [122])] h = .ok (.bl true) h := c14 54 wI false _ true (by decide +kernel) h
theorem wd2 (h : Hm) : call Φ tf 59 14 [wide, .str (rep [97] 60)] h = .ok (.bl false) h := c14 54 wI false _ false (by decide +kernel) h
theorem wd3 (h : Hm) : call Φ tf 59 15 [wide, .str [122, 122, 122]] h = .ok (.bl true) h := c15 54 wI false _ true (by decide +kernel) h
theorem wd4 (h : Hm) : call Φ tf 59 13 [wide, .str (rep [122] 60)] h = .ok (.bl true) h := c13 54 wI false _ true (by decide +kernel) h
theorem wd5 (h : Hm) : call Φ tf 59 15 [patT wI true, .str [97, 122]] h = .ok (.bl true) h := c15 54 wI true _ true (by decide +kernel) h
def emp (w : Bool) : T := patT [] w
theorem e1 (w : Bool) (h : Hm) : call Φ tf 59 13 [emp w, .str []] h = .ok (.bl true) h := c13 54 [] w [] true (by cases w <;> decide +kernel) h
theorem e2 (w : Bool) (h : Hm) : call Φ tf 59 13 [emp w, .str [97]] h = .ok (.bl false) h := c13 54 [] w [97] false (by cases w <;> decide +kernel) h
theorem e3 (w : Bool) (h : Hm) : call Φ tf 59 14 [emp w, .str [97]] h = .ok (.bl !w) h := c14 54 [] w [97] (!w) (by cases w <;> decide +kernel) h
theorem e4 (w : Bool) (h : Hm) : call Φ tf 59 15 [emp w, .str [97, 98]] h = .ok (.bl !w) h := c15 54 [] w [97, 98] (!w) (by cases w <;> decide +kernel) h
def BE : List St := [.ex (.me .append (.v 3) [.lst false [.call 13 [.v 4, .c (.str [])], .call 13 [.v 4, .c (.str [97])], .call 14 [.v 4, .c (.str [97])], .call 15 [.v 4, .c (.str [97, 98])]]])]
theorem bdE (w : Bool) (h : Hm) (acc : List T) (ha : acc.length < 100) (A B C S5 S6 S7 S8 S9 : Option T) : evSs ⟨call Φ tf 59, tf⟩ BE [A, B, C, some (.ref h.length), some (emp w), S5, S6, S7, S8, S9] (h ++ [some (.lst acc)]) = .ok (.next [A, B, C, some (.ref h.length), some (emp w), S5, S6, S7, S8, S9]) (h ++ [some (.lst (acc ++ [.lst [.bl true, .bl false, .bl !w, .bl !w]]))]) := by
  have z : acc.length < lim := ltlim (by omega)
  rw [BE]
  simp only [evSs, evS, evE, evEs, List.getElem?_cons_zero, List.getElem?_cons_succ, R_ok, lkE, meOk, if_pos, e1, e2, e3, e4, mkF, apN _ _ _ z]
theorem ne4 (a b c d : Bool) : cmO .ne (.lst [.bl a, .bl b, .bl c, .bl d]) (.lst [.bl true, .bl false, .bl true, .bl true]) = some (!(a && (!b && (c && d)))) := by
  cases a <;> cases b <;> cases c <;> cases d <;> rfl
theorem mkL (l : List T) (h : Hm) : mk true (.lst l) h = .ok (.ref h.length) (h ++ [some (.lst l)]) := rfl
theorem rngM (ns : List Int) : ∃ k : Nat, biO .max [.int 1, .int (if (ns.length : Int) < 8 then (ns.length : Int) else 8)] = some (.int k) ∧ k < 10 := by
  refine ⟨(if (if (ns.length : Int) < 8 then (ns.length : Int) else 8) > 1 then (if (ns.length : Int) < 8 then (ns.length : Int) else 8) else 1).toNat, ?_, ?_⟩
  · simp only [biO]
    congr 2
    split <;> split <;> omega
  · split <;> split <;> omega
theorem und_true (n : Nat) : (T.bl true).und n = true := rfl
theorem plain : ∀ ns : List Int, ns.length ≤ 63 → ∃ h, Tw.call Φ tf 60 30 [.lst (ns.map .int)] [] = .ok (.bl true) h := by
  intro ns hl
  obtain ⟨k, hk, hk10⟩ := rngM ns
  obtain ⟨S1, S4, S5, S6, S7, S8, h1, r1⟩ := lpO ns none none none (List.range' 0 k) none none none none none none []
  refine ⟨[], ?_⟩
  have main : evSs ⟨call Φ tf 59, tf⟩ b30 [some (.lst (ns.map .int)), none, none, none, none, none, none, none, none, none] [] = .ok (.ret (.bl true)) ((h1 ++ [some (.lst [.bl true, .bl false, .bl true])]) ++ [some (.lst [.lst [.bl true, .bl false, .bl true, .bl true], .lst [.bl true, .bl false, .bl false, .bl false]])]) := by
    rw [b30]
    refine ss_stepT (σ' := [some (.lst (ns.map .int)), S1, none, none, S4, S5, S6, S7, S8, none]) (h' := h1) ?_ ?_
    · have i1 : evI ⟨call Φ tf 59, tf⟩ (.range [.bi false .max [.c (.int 1), .bi false .min [.c (.int 8), .bi false .len [.v 0]]]]) [some (.lst (ns.map .int)), none, none, none, none, none, none, none, none, none] [] = .ok ((List.range' 0 k).map iT) [] := by
        have z : biO .len [.lst (ns.map T.int)] = some (.int ns.length) := by simp [biO, lenO, lenI]
        have z1 : biO .min [.int 8, .int ns.length] = some (.int (if (ns.length : Int) < 8 then (ns.length : Int) else 8)) := rfl
        have z2 : evEs ⟨call Φ tf 59, tf⟩ [.bi false .max [.c (.int 1), .bi false .min [.c (.int 8), .bi false .len [.v 0]]]] [some (.lst (ns.map .int)), none, none, none, none, none, none, none, none, none] [] = .ok [.int k] [] := by
          simp only [evE, evEs, List.getElem?_cons_zero, List.getElem?_cons_succ, R_ok, List.map_cons, List.map_nil, lk_lst, lk_int, z, z1, hk, ofO_s, mkF]
        rw [evI, z2, R_ok, rng1 k (ltlim (by omega)), ofO_s]
      rw [evS, i1, R_ok]
      exact r1
    refine ss_stepT (σ' := [some (.lst (ns.map .int)), S1, some wide, none, S4, S5, S6, S7, S8, none]) (h' := h1) (asgS wide rfl rfl) ?_
    refine ss_stepT (σ' := [some (.lst (ns.map .int)), S1, some wide, some (.ref h1.length), S4, S5, S6, S7, S8, none]) (h' := h1 ++ [some (.lst [.bl true, .bl false, .bl true])]) (asgS (.ref h1.length) ?_ rfl) ?_
    · have m1 := mulA 59 (by omega) (by omega) 97
      have m2 := mulA 60 (by omega) (by omega) 97
      have m3 : opO .add (.str (rep [97] 59)) (.str [122]) = some (.str (rep [97] 59 ++ [122])) := addS _ _ (by decide) (by decide)
      simp only [evE, evEs, List.getElem?_cons_zero, List.getElem?_cons_succ, R_ok, lk_str, lk_int, m1, m2, m3, ofO_s, mkF, wd1, wd2, wd3, mkL]
    refine ss_stepT (σ' := [some (.lst (ns.map .int)), S1, some wide, some (.ref h1.length), S4, S5, S6, S7, S8, none]) (h' := h1 ++ [some (.lst [.bl true, .bl false, .bl true])]) ?_ ?_
    · have m4 := mulA 60 (by omega) (by omega) 122
      have z1 : evB ⟨call Φ tf 59, tf⟩ (.cmp .ne (.bin false .add (.v 3) (.lst false [.call 13 [.v 2, .bin false .mul (.c (.str [122])) (.c (.int 60))]])) (.lst false [.c (.bl true), .c (.bl false), .c (.bl true), .c (.bl true)])) [some (.lst (ns.map .int)), S1, some wide, some (.ref h1.length), S4, S5, S6, S7, S8, none] (h1 ++ [some (.lst [.bl true, .bl false, .bl true])]) = .ok false (h1 ++ [some (.lst [.bl true, .bl false, .bl true])]) := by
        have z0 : opO .add (.lst [.bl true, .bl false, .bl true]) (.lst [.bl true]) = some (.lst [.bl true, .bl false, .bl true, .bl true]) := addL (by decide)
        have zn := ne4 true false true true
        simp only [evB, evE, evEs, List.getElem?_cons_zero, List.getElem?_cons_succ, R_ok, lk_str, lk_int, lk_lst, lkE, m4, ofO_s, mkF, wd4, z0, zn]
        rfl
      have z2 : evB ⟨call Φ tf 59, tf⟩ (.cmp .isnt (.call 15 [.tup [.ix (.v 2) (.c (.int 0)), .c (.bl true)], .c (.str [97, 122])]) (.c (.bl true))) [some (.lst (ns.map .int)), S1, some wide, some (.ref h1.length), S4, S5, S6, S7, S8, none] (h1 ++ [some (.lst [.bl true, .bl false, .bl true])]) = .ok false (h1 ++ [some (.lst [.bl true, .bl false, .bl true])]) := by
        have z3 : cmO .isnt (.bl true) (.bl true) = some false := rfl
        have z4 : ixO wide (.int 0) = some (itsT wI) := ixP0 _ _
        have z5 : ∀ h : Hm, look h wide = wide := fun _ => rfl
        have wd5' : ∀ h, call Φ tf 59 15 [.tup [itsT wI, .bl true], .str [97, 122]] h = .ok (.bl true) h := wd5
        simp only [evB, evE, evEs, List.getElem?_cons_zero, List.getElem?_cons_succ, R_ok, z5, z4, ofO_s, mkF, wd5', lk_bl, z3]
      rw [evS, orB z1 z2]
      rfl
    refine ss_stepT (σ' := [some (.lst (ns.map .int)), S1, some wide, some (.ref (h1 ++ [some (MO.lst [.bl true, .bl false, .bl true])]).length), S4, S5, S6, S7, S8, none]) (h' := (h1 ++ [some (.lst [.bl true, .bl false, .bl true])]) ++ [some (.lst [])]) (asgS (.ref (h1 ++ [some (MO.lst [.bl true, .bl false, .bl true])]).length) rfl rfl) ?_
    refine ss_stepT (σ' := [some (.lst (ns.map .int)), S1, some wide, some (.ref (h1 ++ [some (MO.lst [.bl true, .bl false, .bl true])]).length), some (emp true), S5, S6, S7, S8, none]) (h' := (h1 ++ [some (.lst [.bl true, .bl false, .bl true])]) ++ [some (.lst [.lst [.bl true, .bl false, .bl true, .bl true], .lst [.bl true, .bl false, .bl false, .bl false]])]) ?_ ?_
    · obtain ⟨H, hH⟩ : ∃ H, H = h1 ++ [some (.lst [.bl true, .bl false, .bl true])] := ⟨_, rfl⟩
      rw [← hH]
      have i1 : evI ⟨call Φ tf 59, tf⟩ (.e (.tup [.tup [.tup [], .c (.bl false)], .tup [.tup [], .c (.bl true)]])) [some (.lst (ns.map .int)), S1, some wide, some (.ref H.length), S4, S5, S6, S7, S8, none] (H ++ [some (.lst [])]) = .ok [emp false, emp true] (H ++ [some (.lst [])]) := rfl
      have pu : ∀ (x : T) (s4 : Option T), Tg.put (.v 4) x [some (.lst (ns.map .int)), S1, some wide, some (.ref H.length), s4, S5, S6, S7, S8, none] = some [some (.lst (ns.map .int)), S1, some wide, some (.ref H.length), some x, S5, S6, S7, S8, none] := fun _ _ => rfl
      have t1 := bdE false H [] (by simp) (some (.lst (ns.map .int))) S1 (some wide) S5 S6 S7 S8 none
      have t2 := bdE true H ([] ++ [.lst [.bl true, .bl false, .bl !false, .bl !false]]) (by simp) (some (.lst (ns.map .int))) S1 (some wide) S5 S6 S7 S8 none
      rw [BE] at t1 t2
      rw [evS, i1, R_ok]
      simp only [forLoop, pu, t1, t2, R_ok]
      rfl
    refine ss_ret ?_
    have z : cmO .eq (.lst [.lst [.bl true, .bl false, .bl true, .bl true], .lst [.bl true, .bl false, .bl false, .bl false]]) (.lst [.lst [.bl true, .bl false, .bl true, .bl true], .lst [.bl true, .bl false, .bl false, .bl false]]) = some true := by decide +kernel
    simp only [evS, evE, evEs, List.getElem?_cons_zero, List.getElem?_cons_succ, R_ok, lkE, mkF, lk_lst, z, Option.map_some, ofO_s]
  rw [call_eq (d := ⟨1, 10, b30⟩) rfl rfl]
  have main' : evSs ⟨call Φ tf 59, tf⟩ b30 (List.map some [T.lst (ns.map .int)] ++ List.replicate (10 - 1) none) [] = _ := main
  rw [main']
  rfl
end K60
end
/-! part K60end -/
set_option Elab.async false
set_option linter.all false
set_option maxRecDepth 100000
theorem PySem.Challenge.cw_fewmarks_k60_patterns_holds : PySem.Challenge.rw_fewmarks_k60_patterns.Holds := by
  exact k60_of K60.plain
