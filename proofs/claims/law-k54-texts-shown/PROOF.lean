import PyProof.Rows.All
import Wide.All
import OpenK.AllK
import Wide.FinOn
import HandS.ForMost
import HandS.TupAny
import HandS.TupLe
import HandS.IsInst
import HandS.Conv
import HandS.Deep
import HandS.Strs
import HandS.RaiseMore
import HandS.More
import HandS.Defaults
import HandS.Codes
import KE.KStateDown
import HandS.Base
import HandS.Call
import HandS.Ends
import HandS.Words
import HandS.WordsExc
import HandS.Head0
import HandS.Head1
import HandS.Head2
import HandS.HeadEnd
import HandS.HeadHook1
import HandS.HeadHook2
import PySem.Challenge.RW_likepieces_k54_texts_shown
-- Mp1
set_option Elab.async false
set_option linter.all false
set_option maxRecDepth 100000
namespace Mp
open PySem L2

/-! ## values and memory -/
inductive Vl where
  | d (x : PyData)
  | r (n : Nat)
  | s (ns : List Int)
inductive Cell where
  | lst (xs : List PyData)
  | dct (kvs : List (Key × PyData))
  | frz (x : PyData)
abbrev Mem := List Cell
abbrev En := List (Option Vl)
inductive R (α : Type) where
  | ok (a : α) (m : Mem)
  | ex (c : Str) (fs : List PyData) (m : Mem)
  | no
def R.bind {α β : Type} : R α → (α → Mem → R β) → R β
  | .ok a m, f => f a m
  | .ex c fs m, _ => .ex c fs m
  | .no, _ => .no
@[simp] theorem bind_ok {α β : Type} (a : α) (m : Mem) (f : α → Mem → R β) : (R.ok a m).bind f = f a m := rfl
@[simp] theorem bind_ex {α β : Type} (c : Str) (fs : List PyData) (m : Mem) (f : α → Mem → R β) : (R.ex c fs m : R α).bind f = .ex c fs m := rfl
@[simp] theorem bind_no {α β : Type} (f : α → Mem → R β) : (R.no : R α).bind f = .no := rfl

def kD : Key → PyData
  | .inl i => .int i
  | .inr x => .str x
def kOf : PyData → Option Key
  | .int i => some (.inl i)
  | .str x => some (.inr x)
  | _ => none
def reK (l : List (Key × PyData)) : List (PyData × PyData) := l.map fun p => (kD p.1, p.2)
def unK : List (PyData × PyData) → Option (List (Key × PyData))
  | [] => some []
  | (k, v) :: l => match kOf k, unK l with
    | some k, some r => some ((k, v) :: r)
    | _, _ => none
@[simp] theorem kOf_kD (k : Key) : kOf (kD k) = some k := by cases k <;> rfl
@[simp] theorem unK_reK : ∀ l : List (Key × PyData), unK (reK l) = some l
  | [] => rfl
  | (k, v) :: l => by
    show unK ((kD k, v) :: reK l) = _
    simp only [unK, kOf_kD, unK_reK l]

def rd (m : Mem) : Vl → Option PyData
  | .d x => some x
  | .r n => match m[n]? with
    | some (.lst xs) => some (.list xs)
    | some (.dct kvs) => some (.dict (reK kvs))
    | some (.frz x) => some x
    | none => none
  | .s _ => none
def fz : Vl → Mem → R PyData
  | .d x, m => .ok x m
  | .r n, m => match m[n]? with
    | some (.lst xs) => .ok (.list xs) (m.set n (.frz (.list xs)))
    | some (.dct kvs) => .ok (.dict (reK kvs)) (m.set n (.frz (.dict (reK kvs))))
    | some (.frz x) => .ok x m
    | none => .no
  | .s _, _ => .no
def fzL : List Vl → Mem → R (List PyData)
  | [], m => .ok [] m
  | v :: vs, m => (fz v m).bind fun x m1 => (fzL vs m1).bind fun xs m2 => .ok (x :: xs) m2
def al (c : Cell) (m : Mem) : R Vl := .ok (.r m.length) (m ++ [c])
def mkl (fl : Bool) (xs : List PyData) (m : Mem) : R Vl := if fl then al (.lst xs) m else .ok (.d (.list xs)) m
def opt (o : Option PyData) (m : Mem) : R Vl := match o with
  | some x => .ok (.d x) m
  | none => .no

/-! ## syntax -/
inductive Bo where
  | add | sub | mul | fdiv | mod | pow
inductive Co where
  | eq | ne | lt | le | gt | ge | is | isn | inn | nin
inductive Ty where
  | tuple | list | str | int | bool
inductive Bt where
  | len | tuple | list | str | int | sum | all | any | dict
inductive Mt where
  | get | index | join | find
inductive Ct where
  | non | bl (b : Bool) | int (i : Int) | str (x : Str)
def Ct.v : Ct → PyData
  | .non => .none
  | .bl b => .bool b
  | .int i => .int i
  | .str x => .str x
inductive Tg where
  | v (i : Nat)
  | t (is : List Nat)
mutual
inductive Ex where
  | var (i : Nat)
  | cst (c : Ct)
  | glo (x : Str) (d : PyData)
  | bin (o : Bo) (a b : Ex)
  | neg (a : Ex)
  | cmp (o : Co) (a b : Ex)
  | chn (o1 o2 : Co) (a b c : Ex)
  | and (es : Exs)
  | or (es : Exs)
  | not (a : Ex)
  | ite (c a b : Ex)
  | tup (es : Exs)
  | lst (fl : Bool) (es : Exs)
  | dic (ks : List Str) (es : Exs)
  | idx (a b : Ex)
  | slf (a lo : Ex)
  | slt (a hi : Ex)
  | sl2 (a lo hi : Ex)
  | call (f : Str) (es : Exs)
  | isi (a : Ex) (t : Ty)
  | blt (fl : Bool) (b : Bt) (a : Ex)
  | mth (m : Mt) (o : Ex) (es : Exs)
  | lc (fl : Bool) (elt : Ex) (tg : Tg) (it : It)
  | lci (fl : Bool) (elt : Ex) (tg : Tg) (it : It) (c : Ex)
  | lcv (elt : Ex) (tg : Tg) (i : Nat)
inductive Exs where
  | nil
  | cons (e : Ex) (es : Exs)
inductive It where
  | e (x : Ex)
  | rng (x : Ex)
  | rng2 (x y : Ex)
end

/-! ## operations -/
def okI (i : Int) : Bool := decide (-(2 ^ 64) < i) && decide (i < 2 ^ 64)
def binop : Bo → PyData → PyData → Option PyData
  | .add, .int i, .int j => some (.int (i + j))
  | .sub, .int i, .int j => some (.int (i - j))
  | .mul, .int i, .int j => if okI i || okI j then some (.int (i * j)) else none
  | .fdiv, .int i, .int j => if 0 < j ∧ j < 1073741824 then some (.int (i / j)) else none
  | .mod, .int i, .int j => if 0 < j then some (.int (i % j)) else none
  | .pow, .int i, .int j => if 0 ≤ j ∧ j ≤ 1000000 ∧ i.natAbs < 2 ^ 64 then some (.int (i ^ j.toNat)) else none
  | .add, .str x, .str y => if x.length + y.length ≤ sizeLine then some (.str (x ++ y)) else none
  | .add, .list x, .list y => if x.length + y.length ≤ sizeLine then some (.list (x ++ y)) else none
  | .add, .tuple x, .tuple y => if x.length + y.length ≤ sizeLine then some (.tuple (x ++ y)) else none
  | .mul, .list x, .int k => if -(2 ^ 63) ≤ k ∧ k < 2 ^ 63 ∧ x.length * k.toNat ≤ sizeLine then some (.list (List.replicate k.toNat x).flatten) else none
  | _, _, _ => none
def negop : PyData → Option PyData
  | .int i => some (.int (-i))
  | _ => none
/-- scalars that == tells apart at once -/
def scalD : PyData → PyData → Bool
  | .none, .none => true | .none, .int _ => true | .int _, .none => true | .none, .bool _ => true | .bool _, .none => true | .none, .str _ => true | .str _, .none => true
  | .int _, .int _ => true | .bool _, .bool _ => true | .str _, .str _ => true
  | .int _, .str _ => true | .str _, .int _ => true | .bool _, .str _ => true | .str _, .bool _ => true
  | _, _ => false
def eqop (a b : PyData) : Option Bool := if scalD a b then some (PyData.eqv a b) else if SeqAt.shaped a && SeqAt.shaped b then some (PyData.eqv a b) else none
def flatD : PyData → Bool
  | .none => true
  | .bool _ => true
  | .int _ => true
  | .str _ => true
  | _ => false
def inop : PyData → PyData → Option Bool
  | x, .list ys => if flatD x && ys.all flatD then some (ys.any fun y => PyData.eqv y x) else none
  | x, .tuple ys => if flatD x && ys.all flatD then some (ys.any fun y => PyData.eqv y x) else none
  | x, .dict kvs => match kOf x, unK kvs with
    | some k, some l => some (l.any fun p => decide (p.1 = k))
    | _, _ => none
  | .str c, .str z => match c.cps.toList with
    | [c] => some (decide (c ∈ z.cps.toList))
    | _ => none
  | _, _ => none
def isop : PyData → PyData → Option Bool
  | .none, .none => some true
  | .bool _, .none => some false
  | .int _, .none => some false
  | .str _, .none => some false
  | .tuple _, .none => some false
  | .list _, .none => some false
  | .bool a, .bool b => some (a == b)
  | _, _ => none
def cmpop : Co → PyData → PyData → Option Bool
  | .eq, a, b => eqop a b
  | .ne, a, b => (eqop a b).map (!·)
  | .lt, .int i, .int j => some (decide (i < j))
  | .le, .int i, .int j => some (decide (i ≤ j))
  | .gt, .int i, .int j => some (decide (j < i))
  | .ge, .int i, .int j => some (decide (j ≤ i))
  | .inn, a, b => inop a b
  | .nin, a, b => (inop a b).map (!·)
  | .is, a, b => isop a b
  | .isn, a, b => (isop a b).map (!·)
  | _, _, _ => none
def lookK (l : List (Key × PyData)) (k : Key) : Option PyData := (l.find? fun p => decide (p.1 = k)).map (·.2)
def putKK (l : List (Key × PyData)) (k : Key) (v : PyData) : List (Key × PyData) :=
  if l.any fun p => decide (p.1 = k) then l.map fun p => if p.1 = k then (p.1, v) else p else l ++ [(k, v)]
def idxop : PyData → PyData → Option PyData
  | .list xs, .int i => atI xs i
  | .tuple xs, .int i => atI xs i
  | .str z, .int i => if z.length ≤ sizeLine then (atI z.cps.toList i).map fun c => .str ⟨#[c]⟩ else none
  | .dict kvs, k => match kOf k, unK kvs with
    | some k, some l => lookK l k
    | _, _ => none
  | _, _ => none
def cutL {α : Type} (xs : List α) (lo hi : Option Int) : List α := (xs.drop (HT.sIx xs.length 0 lo)).take (HT.sIx xs.length xs.length hi - HT.sIx xs.length 0 lo)
def slop : PyData → Option Int → Option Int → Option PyData
  | .list xs, lo, hi => some (.list (cutL xs lo hi))
  | .tuple xs, lo, hi => some (.tuple (cutL xs lo hi))
  | .str z, lo, hi => if z.length ≤ sizeLine then some (.str (cutS z lo hi)) else none
  | _, _, _ => none
def isiop : PyData → Ty → Option Bool
  | .none, _ => some false
  | .bool _, .bool => some true
  | .bool _, .int => some true
  | .bool _, _ => some false
  | .int _, .int => some true
  | .int _, _ => some false
  | .str _, .str => some true
  | .str _, _ => some false
  | .tuple _, .tuple => some true
  | .tuple _, _ => some false
  | .list _, .list => some true
  | .list _, _ => some false
  | .dict _, _ => none
def intsOf : List PyData → Option (List Int)
  | [] => some []
  | .int i :: r => (intsOf r).map (i :: ·)
  | _ :: _ => none
def boolsOf : List PyData → Option (List Bool)
  | [] => some []
  | .bool b :: r => (boolsOf r).map (b :: ·)
  | _ :: _ => none
def strsOf : List PyData → Option (List Str)
  | [] => some []
  | .str x :: r => (strsOf r).map (x :: ·)
  | _ :: _ => none
def pairsOf : List PyData → Option (List (Key × PyData))
  | [] => some []
  | .tuple [k, v] :: r => match kOf k, pairsOf r with
    | some k, some l => some ((k, v) :: l)
    | _, _ => none
  | _ :: _ => none
/-- what dict(pairs) makes -/
def dictOfP (l : List (Key × PyData)) : List (Key × PyData) := l.foldl (fun acc p => putKK acc p.1 p.2) []
/-- a value, or a new list, or a new dict -/
inductive Out where
  | val (x : PyData)
  | lst (xs : List PyData)
  | dct (kvs : List (Key × PyData))
def outM (fl : Bool) (o : Option Out) (m : Mem) : R Vl := match o with
  | some (.val x) => .ok (.d x) m
  | some (.lst xs) => mkl fl xs m
  | some (.dct kvs) => al (.dct kvs) m
  | none => .no
def bltop : Bt → PyData → Option Out
  | .len, .list xs => some (.val (.int xs.length))
  | .len, .tuple xs => some (.val (.int xs.length))
  | .len, .str z => if z.length ≤ sizeLine then some (.val (.int z.length)) else none
  | .tuple, .list xs => some (.val (.tuple xs))
  | .tuple, .tuple xs => some (.val (.tuple xs))
  | .list, .list xs => some (.lst xs)
  | .list, .tuple xs => some (.lst xs)
  | .str, .int i => if i.natAbs.log2 < 1920 then some (.val (.str (toString i))) else none
  | .str, .str x => some (.val (.str x))
  | .int, .int i => some (.val (.int i))
  | .int, .bool b => some (.val (.int (if b then 1 else 0)))
  | .sum, .list xs => (intsOf xs).map fun ns => .val (.int ns.sum)
  | .all, .list xs => (boolsOf xs).map fun bs => .val (.bool (bs.all id))
  | .any, .list xs => (boolsOf xs).map fun bs => .val (.bool (bs.any id))
  | .dict, .dict kvs => (unK kvs).map .dct
  | .dict, .list xs => (pairsOf xs).map fun l => .dct (dictOfP l)
  | _, _ => none
def getop : PyData → List PyData → Option PyData
  | .dict kvs, [k, v] => match kOf k, unK kvs with
    | some k, some l => some ((lookK l k).getD v)
    | _, _ => none
  | _, _ => none
def indexop : PyData → List PyData → Option PyData
  | .list xs, [x] => if flatD x && xs.all flatD then (xs.findIdx? fun y => PyData.eqv y x).map fun j => .int (j : Nat) else none
  | _, _ => none
def joinop : PyData → List PyData → Option PyData
  | .str a, [.list xs] => match strsOf xs with
    | some ys => if (ys.map (·.length)).sum + ys.length * a.length ≤ 16777216 then some (.str (Str.join a ys)) else none
    | none => none
  | _, _ => none
def findop : PyData → List PyData → Option PyData
  | .str a, [.str b] => some (.int (PySem.Txt.find a b))
  | _, _ => none
def mthop : Mt → PyData → List PyData → Option PyData
  | .get => getop
  | .index => indexop
  | .join => joinop
  | .find => findop
end Mp
-- Mp2
set_option Elab.async false
set_option linter.all false
set_option maxRecDepth 100000
namespace Mp
open PySem L2

/-! ## statements -/
mutual
inductive Sx where
  | asg (i : Nat) (e : Ex)
  | unp (is : List Nat) (e : Ex)
  | sti (o i e : Ex)
  | exp (e : Ex)
  | app (o e : Ex)
  | ext (o e : Ex)
  | ret (e : Ex)
  | ret0
  | ife (c : Ex) (a b : Sxs)
  | forr (tg : Tg) (it : It) (b : Sxs)
  | whl (fuel : Nat) (c : Ex) (b : Sxs)
  | pas
inductive Sxs where
  | nil
  | cons (s : Sx) (r : Sxs)
end
inductive Fl where
  | nx (r : En)
  | rt (v : Vl)
structure Fn where
  py : Str
  np : Nat
  ns : Nat
  raw : Bool
  body : Sxs
abbrev Fs := Str → List Vl → Mem → R Vl

/-! ## the evaluator -/
def asB : Vl → Mem → R Bool
  | .d (.bool b), m => .ok b m
  | _, _ => .no
def opB (o : Option Bool) (m : Mem) : R Vl := match o with
  | some b => .ok (.d (.bool b)) m
  | none => .no
def rd2 (m : Mem) (a b : Vl) (f : PyData → PyData → R Vl) : R Vl := match rd m a, rd m b with
  | some x, some y => f x y
  | _, _ => .no
def setAll (r : En) : List Nat → List PyData → En
  | i :: is, x :: xs => setAll (r.set i (some (.d x))) is xs
  | _, _ => r
def bindT (r : En) : Tg → PyData → Option En
  | .v i, x => some (r.set i (some (.d x)))
  | .t is, .tuple xs => if xs.length = is.length then some (setAll r is xs) else none
  | .t _, _ => none
def asIt (xs : PyData) (m : Mem) : R (List PyData) := match xs with
  | .list xs => .ok xs m
  | .tuple xs => .ok xs m
  | _ => .no
def rngL (a b : Int) : List PyData := (List.range (b - a).toNat).map fun i => .int (a + (i : Nat))
def rngOk (a b : Int) : Bool := decide (-(2 ^ 62) ≤ a) && decide (a < 2 ^ 62) && decide (-(2 ^ 62) ≤ b) && decide (b < 2 ^ 62) && decide ((b - a).toNat ≤ sizeLine)
/-- a comprehension's loop: f tells an item's value, or that it is left out; the list so far is cell k -/
def lcL (k : Nat) (f : PyData → Mem → R (Option PyData)) : Nat → List PyData → Mem → R Unit
  | _, [], m => .ok () m
  | n, x :: xs, m => match f x m with
    | .ok (some y) m1 => (match m1[k]? with
      | some (.lst acc) => if acc.length ≤ n then lcL k f (n + 1) xs (m1.set k (.lst (acc ++ [y]))) else .no
      | _ => .no)
    | .ok none m1 => lcL k f (n + 1) xs m1
    | _ => .no
/-- .. its end -/
def lcE (fl : Bool) (k : Nat) (m : Mem) : R Vl := match m[k]? with
  | some (.lst ys) => if fl then .ok (.r k) m else .ok (.d (.list ys)) (m.take k)
  | _ => .no
def forL (f : PyData → En → Mem → R Fl) : List PyData → En → Mem → R Fl
  | [], r, m => .ok (.nx r) m
  | x :: xs, r, m => (f x r m).bind fun fl m1 => match fl with
    | .nx r1 => forL f xs r1 m1
    | .rt v => .ok (.rt v) m1
def whlL (c : En → Mem → R Bool) (b : En → Mem → R Fl) : Nat → En → Mem → R Fl
  | 0, _, _ => .no
  | n + 1, r, m => (c r m).bind fun k m1 => match k with
    | false => .ok (.nx r) m1
    | true => (b r m1).bind fun fl m2 => match fl with
      | .nx r1 => whlL c b n r1 m2
      | .rt v => .ok (.rt v) m2
def dicOf : List Str → List PyData → Option (List (Key × PyData))
  | [], [] => some []
  | k :: ks, v :: vs => (dicOf ks vs).map ((Sum.inr k, v) :: ·)
  | _, _ => none
def Tg.slots : Tg → List Nat
  | .v i => [i]
  | .t is => is
def wipeE (r : En) : List Nat → En
  | [] => r
  | i :: is => (wipeE r is).set i none

/-- the receiver's type is the method's -/
def mtK (t : Mt) (m : Mem) (v : Vl) : Bool := match t, rd m v with
  | .get, some (.dict _) => true
  | .index, some (.list _) => true
  | .join, some (.str _) => true
  | .find, some (.str _) => true
  | _, _ => false
/-- a living list -/
def lsK (m : Mem) : Vl → Option Nat
  | .r n => match m[n]? with
    | some (.lst _) => some n
    | _ => none
  | _ => none
def itemsOf : PyData → Option (List PyData)
  | .list ys => some ys
  | .tuple ys => some ys
  | _ => none
open Classical in
/-- the list at n is (still) this one -/
noncomputable def held {α : Type} (n : Nat) (xs : List PyData) (m : Mem) (x : R α) : R α := if m[n]? = some (.lst xs) then x else .no
variable (F : Fs)
mutual
noncomputable def evE : Ex → En → Mem → R Vl
  | .var i, r, m => match r[i]? with
    | some (some v) => .ok v m
    | _ => .no
  | .cst c, _, m => .ok (.d c.v) m
  | .glo _ x, _, m => .ok (.d x) m
  | .bin o a b, r, m => (evE a r m).bind fun x m1 => (evE b r m1).bind fun y m2 => rd2 m2 x y fun p q => opt (binop o p q) m2
  | .neg a, r, m => (evE a r m).bind fun x m1 => match rd m1 x with
    | some p => opt (negop p) m1
    | none => .no
  | .cmp o a b, r, m => (evE a r m).bind fun x m1 => (evE b r m1).bind fun y m2 => rd2 m2 x y fun p q => opB (cmpop o p q) m2
  | .chn o o' a b c, r, m => (evE a r m).bind fun x m1 => (evE b r m1).bind fun y m2 => match rd m2 x, rd m2 y with
    | some p, some q => match cmpop o p q with
      | some true => (evE c r m2).bind fun z m3 => rd2 m3 y z fun q s => opB (cmpop o' q s) m3
      | some false => .ok (.d (.bool false)) m2
      | none => .no
    | _, _ => .no
  | .and es, r, m => evAnd es r m
  | .or es, r, m => evOr es r m
  | .not a, r, m => (evE a r m).bind fun x m1 => (asB x m1).bind fun b m2 => .ok (.d (.bool (!b))) m2
  | .ite c a b, r, m => (evE c r m).bind fun x m1 => (asB x m1).bind fun k m2 => match k with
    | true => evE a r m2
    | false => evE b r m2
  | .tup es, r, m => (evL es r m).bind fun vs m1 => (fzL vs m1).bind fun xs m2 => .ok (.d (.tuple xs)) m2
  | .lst fl es, r, m => (evL es r m).bind fun vs m1 => (fzL vs m1).bind fun xs m2 => mkl fl xs m2
  | .dic ks es, r, m => (evL es r (m ++ [.dct []])).bind fun vs m1 => (fzL vs m1).bind fun xs m2 => match dicOf ks xs, m2[m.length]? with
    | some l, some (.dct []) => .ok (.r m.length) (m2.set m.length (.dct l))
    | _, _ => .no
  | .idx a b, r, m => (evE a r m).bind fun x m1 => (evE b r m1).bind fun y m2 => rd2 m2 x y fun p q => opt (idxop p q) m2
  | .slf a lo, r, m => (evE a r m).bind fun x m1 => (evE lo r m1).bind fun y m2 => match rd m2 x, y with
    | some p, .d (.int i) => opt (slop p (some i) none) m2
    | _, _ => .no
  | .slt a hi, r, m => (evE a r m).bind fun x m1 => (evE hi r m1).bind fun y m2 => match x, y with
    | .s ns, .d (.int i) => .ok (.d (.list ((cutL ns none (some i)).map .int))) m2
    | x, .d (.int i) => match rd m2 x with
      | some p => opt (slop p none (some i)) m2
      | none => .no
    | _, _ => .no
  | .sl2 a lo hi, r, m => (evE a r m).bind fun x m1 => (evE lo r m1).bind fun y m2 => (evE hi r m2).bind fun z m3 => match rd m3 x, y, z with
    | some p, .d (.int i), .d (.int j) => opt (slop p (some i) (some j)) m3
    | _, _, _ => .no
  | .call f es, r, m => (evL es r m).bind fun vs m1 => F f vs m1
  | .isi a t, r, m => (evE a r m).bind fun x m1 => match rd m1 x with
    | some p => opB (isiop p t) m1
    | none => .no
  | .blt fl b a, r, m => (evE a r m).bind fun x m1 => match rd m1 x with
    | some p => outM fl (bltop b p) m1
    | none => .no
  | .mth k o es, r, m => (evE o r m).bind fun x m1 => match mtK k m1 x with
    | true => (evL es r m1).bind fun vs m2 => (fzL vs m2).bind fun xs m3 => match rd m3 x with
      | some p => opt (mthop k p xs) m3
      | none => .no
    | false => .no
  | .lc fl e tg it, r, m => (evI it r m).bind fun xs m1 => (lcL m1.length (fun x m2 => match bindT (wipeE r tg.slots) tg x with
      | some r1 => (evE e r1 m2).bind fun v m3 => (fz v m3).bind fun y m4 => .ok (some y) m4
      | none => .no) 0 xs (m1 ++ [.lst []])).bind fun _ m2 => lcE fl m1.length m2
  | .lci fl e tg it c, r, m => (evI it r m).bind fun xs m1 => (lcL m1.length (fun x m2 => match bindT (wipeE r tg.slots) tg x with
      | some r1 => (evE c r1 m2).bind fun k m3 => (asB k m3).bind fun k m4 => match k with
        | true => (evE e r1 m4).bind fun v m5 => (fz v m5).bind fun y m6 => .ok (some y) m6
        | false => .ok none m4
      | none => .no) 0 xs (m1 ++ [.lst []])).bind fun _ m2 => lcE fl m1.length m2
  | .lcv e tg i, r, m => match r[i]? with
    | some (some (.r n)) => match m[n]? with
      | some (.lst xs) => (lcL m.length (fun x m2 => held n xs m2 (match bindT (wipeE r tg.slots) tg x with
        | some r1 => (evE e r1 m2).bind fun v m3 => (fz v m3).bind fun y m4 => .ok (some y) m4
        | none => .no)) 0 xs (m ++ [.lst []])).bind fun _ m2 => held n xs m2 (lcE false m.length m2)
      | _ => .no
    | _ => .no
noncomputable def evL : Exs → En → Mem → R (List Vl)
  | .nil, _, m => .ok [] m
  | .cons e es, r, m => (evE e r m).bind fun v m1 => (evL es r m1).bind fun vs m2 => .ok (v :: vs) m2
noncomputable def evAnd : Exs → En → Mem → R Vl
  | .nil, _, _ => .no
  | .cons e .nil, r, m => (evE e r m).bind fun x m1 => (asB x m1).bind fun b m2 => .ok (.d (.bool b)) m2
  | .cons e es, r, m => (evE e r m).bind fun x m1 => (asB x m1).bind fun b m2 => match b with
    | true => evAnd es r m2
    | false => .ok (.d (.bool false)) m2
noncomputable def evOr : Exs → En → Mem → R Vl
  | .nil, _, _ => .no
  | .cons e .nil, r, m => (evE e r m).bind fun x m1 => (asB x m1).bind fun b m2 => .ok (.d (.bool b)) m2
  | .cons e es, r, m => (evE e r m).bind fun x m1 => (asB x m1).bind fun b m2 => match b with
    | true => .ok (.d (.bool true)) m2
    | false => evOr es r m2
noncomputable def evI : It → En → Mem → R (List PyData)
  | .e x, r, m => (evE x r m).bind fun v m1 => (fz v m1).bind fun xs m2 => asIt xs m2
  | .rng x, r, m => (evE x r m).bind fun v m1 => match v with
    | .d (.int b) => if rngOk 0 b then .ok (rngL 0 b) m1 else .no
    | _ => .no
  | .rng2 x y, r, m => (evE x r m).bind fun v m1 => (evE y r m1).bind fun w m2 => match v, w with
    | .d (.int a), .d (.int b) => if rngOk a b then .ok (rngL a b) m2 else .no
    | _, _ => .no
end
noncomputable def evT (e : Ex) (r : En) (m : Mem) : R Bool := (evE F e r m).bind asB
mutual
noncomputable def evS : Sx → En → Mem → R Fl
  | .asg i e, r, m => (evE F e r m).bind fun v m1 => .ok (.nx (r.set i (some v))) m1
  | .unp is e, r, m => (evE F e r m).bind fun v m1 => match v with
    | .d x => match bindT r (.t is) x with
      | some r1 => .ok (.nx r1) m1
      | none => .no
    | _ => .no
  | .sti o i e, r, m => (evE F e r m).bind fun v m1 => (evE F o r m1).bind fun x m2 => (evE F i r m2).bind fun y m3 => (fz v m3).bind fun w m4 => match x, y with
    | .r n, .d k => match m4[n]? with
      | some (.dct kvs) => match kOf k with
        | some k => if kvs.length < sizeLine then .ok (.nx r) (m4.set n (.dct (putKK kvs k w))) else .no
        | none => .no
      | some (.lst xs) => match k with
        | .int j => match ixN xs.length j with
          | some j => .ok (.nx r) (m4.set n (.lst (xs.set j w)))
          | none => .no
        | _ => .no
      | _ => .no
    | _, _ => .no
  | .exp e, r, m => (evE F e r m).bind fun _ m1 => .ok (.nx r) m1
  | .app o e, r, m => (evE F o r m).bind fun x m1 => match lsK m1 x with
    | some n => (evE F e r m1).bind fun v m2 => (fz v m2).bind fun w m3 => match m3[n]? with
      | some (.lst xs) => if xs.length < sizeLine then .ok (.nx r) (m3.set n (.lst (xs ++ [w]))) else .no
      | _ => .no
    | none => .no
  | .ext o e, r, m => (evE F o r m).bind fun x m1 => match lsK m1 x with
    | some n => (evE F e r m1).bind fun v m2 => (fz v m2).bind fun w m3 => match m3[n]?, itemsOf w with
      | some (.lst xs), some ys => if xs.length + ys.length ≤ sizeLine then .ok (.nx r) (m3.set n (.lst (xs ++ ys))) else .no
      | _, _ => .no
    | none => .no
  | .ret e, r, m => (evE F e r m).bind fun v m1 => .ok (.rt v) m1
  | .ret0, _, m => .ok (.rt (.d .none)) m
  | .ife c a b, r, m => (evT F c r m).bind fun k m1 => match k with
    | true => evB a r m1
    | false => evB b r m1
  | .forr tg it b, r, m => (evI F it r m).bind fun xs m1 => forL (fun x r1 m2 => match bindT r1 tg x with
    | some r2 => evB b r2 m2
    | none => .no) xs r m1
  | .whl n c b, r, m => whlL (fun r m => evT F c r m) (fun r m => evB b r m) n r m
  | .pas, r, m => .ok (.nx r) m
noncomputable def evB : Sxs → En → Mem → R Fl
  | .nil, r, m => .ok (.nx r) m
  | .cons s b, r, m => (evS s r m).bind fun fl m1 => match fl with
    | .nx r1 => evB b r1 m1
    | .rt v => .ok (.rt v) m1
end
def fin (raw : Bool) (k : Nat) : Fl → Mem → R Vl
  | .nx _, m => .ok (.d .none) (m.take k)
  | .rt v, m => match raw, v with
    | true, .r n => if n < k then .ok (.r n) (m.take k) else match m[n]? with
      | some c => .ok (.r k) (m.take k ++ [c])
      | none => .no
    | _, v => (fz v m).bind fun x m2 => .ok (.d x) (m2.take k)
noncomputable def runF (fn : Fn) (vs : List Vl) (m : Mem) : R Vl :=
  if vs.length = fn.np then (evB F fn.body (vs.map some ++ List.replicate (fn.ns - fn.np) none) m).bind (fin fn.raw m.length) else .no
noncomputable def callN (T : Str → Option Fn) : Nat → Fs
  | 0, _, _, _ => .no
  | n + 1, f, vs, m => match T f with
    | some fn => runF (callN T n) fn vs m
    | none => .no
end Mp
-- Mp3
set_option Elab.async false
set_option linter.all false
set_option maxRecDepth 100000
namespace Mp
open PySem PySem.Spec PyProof.Rows L2

/-! ## what stands for what -/
mutual
inductive Rep (K : PySem.W.Frag) (L : Addr → Prop) (H : Hp) : PyData → V → Prop
  | non : Rep K L H .none .non
  | bl (b : Bool) : Rep K L H (.bool b) (.bl b)
  | int (i : Int) : Rep K L H (.int i) (.int i)
  | str (x : Str) : Rep K L H (.str x) (.str x)
  | lst {a : Addr} {ds : List PyData} {xs : List V} : ds.length ≤ sizeLine → H a = some (.lst xs) → ¬ L a → RepL K L H ds xs → Rep K L H (.list ds) (.ref a)
  | tup {a : Addr} {ds : List PyData} {xs : List V} : ds.length ≤ sizeLine → SqT K H a xs → RepL K L H ds xs → Rep K L H (.tuple ds) (.ref a)
  | dct {a : Addr} {kvs : List (Key × PyData)} {ks : List (Key × V)} : H a = some (.dK ks) → ¬ L a → RepK K L H kvs ks → Rep K L H (.dict (reK kvs)) (.ref a)
inductive RepL (K : PySem.W.Frag) (L : Addr → Prop) (H : Hp) : List PyData → List V → Prop
  | nil : RepL K L H [] []
  | cons {d : PyData} {ds : List PyData} {x : V} {xs : List V} : Rep K L H d x → RepL K L H ds xs → RepL K L H (d :: ds) (x :: xs)
inductive RepK (K : PySem.W.Frag) (L : Addr → Prop) (H : Hp) : List (Key × PyData) → List (Key × V) → Prop
  | nil : RepK K L H [] []
  | cons {k : Key} {d : PyData} {ds : List (Key × PyData)} {x : V} {xs : List (Key × V)} : Rep K L H d x → RepK K L H ds xs → RepK K L H ((k, d) :: ds) ((k, x) :: xs)
end
/-- from one heap to a later one: what isn't live stands -/
def Gx (H : Hp) (L : Addr → Prop) (H' : Hp) (L' : Addr → Prop) : Prop := ∀ a o, H a = some o → ¬ L a → H' a = some o ∧ ¬ L' a
theorem Gx.refl (H : Hp) (L : Addr → Prop) : Gx H L H L := fun _ _ e n => ⟨e, n⟩
theorem Gx.trans {H1 H2 H3 : Hp} {L1 L2 L3 : Addr → Prop} (a : Gx H1 L1 H2 L2) (b : Gx H2 L2 H3 L3) : Gx H1 L1 H3 L3 := fun x o e n => let ⟨e2, n2⟩ := a x o e n; b x o e2 n2
/-- what lives is a list or a dict -/
def LvOk (H : Hp) (L : Addr → Prop) : Prop := ∀ a, L a → (∃ xs, H a = some (.lst xs)) ∨ ∃ ks, H a = some (.dK ks)
theorem LvOk.tup {H : Hp} {L : Addr → Prop} (k : LvOk H L) {a : Addr} {xs : List V} (e : H a = some (.tup xs)) : ¬ L a := fun l => by
  rcases k a l with ⟨_, q⟩ | ⟨_, q⟩ <;> (rw [e] at q; cases q)
theorem LvOk.frz {H : Hp} {L : Addr → Prop} (k : LvOk H L) {a : Addr} {o : Obj} {u : HO} (e : H a = some (.frz o u)) : ¬ L a := fun l => by
  rcases k a l with ⟨_, q⟩ | ⟨_, q⟩ <;> (rw [e] at q; cases q)
theorem SqT.go {K : PySem.W.Frag} {H H' : Hp} {L L' : Addr → Prop} (g : Gx H L H' L') (k : LvOk H L) {a : Addr} {xs : List V} (h : SqT K H a xs) : SqT K H' a xs := by
  rcases h with (h | ⟨o, h⟩) | h
  · exact .inl (.inl (g a _ h (k.tup h)).1)
  · exact .inl (.inr ⟨o, (g a _ h (k.frz h)).1⟩)
  · exact .inr h
section
variable {K : PySem.W.Frag} {H H' : Hp} {L L' : Addr → Prop}
mutual
theorem Rep.go (g : Gx H L H' L') (k : LvOk H L) : ∀ {d : PyData} {x : V}, Rep K L H d x → Rep K L' H' d x
  | _, _, .non => .non
  | _, _, .bl b => .bl b
  | _, _, .int i => .int i
  | _, _, .str x => .str x
  | _, _, .lst z e n r => .lst z (g _ _ e n).1 (g _ _ e n).2 (RepL.go g k r)
  | _, _, .tup z e r => .tup z (SqT.go g k e) (RepL.go g k r)
  | _, _, .dct e n r => .dct (g _ _ e n).1 (g _ _ e n).2 (RepK.go g k r)
theorem RepL.go (g : Gx H L H' L') (k : LvOk H L) : ∀ {ds : List PyData} {xs : List V}, RepL K L H ds xs → RepL K L' H' ds xs
  | _, _, .nil => .nil
  | _, _, .cons r t => .cons (Rep.go g k r) (RepL.go g k t)
theorem RepK.go (g : Gx H L H' L') (k : LvOk H L) : ∀ {ds : List (Key × PyData)} {xs : List (Key × V)}, RepK K L H ds xs → RepK K L' H' ds xs
  | _, _, .nil => .nil
  | _, _, .cons r t => .cons (Rep.go g k r) (RepK.go g k t)
end
/-- read at once: nothing is asked of what lives -/
abbrev NoL : Addr → Prop := fun _ => False
theorem Rep.now (r : Rep K L H d x) : Rep K NoL H d x := by
  have aux : ∀ {d : PyData} {x : V}, Rep K L H d x → Rep K NoL H d x := by
    intro d x h
    exact h.rec (motive_1 := fun d x _ => Rep K NoL H d x) (motive_2 := fun ds xs _ => RepL K NoL H ds xs) (motive_3 := fun ds xs _ => RepK K NoL H ds xs)
      .non .bl .int .str (fun z e _ _ r => .lst z e id r) (fun z e _ r => .tup z e r) (fun e _ _ r => .dct e id r) .nil (fun _ _ a b => .cons a b) .nil (fun _ _ a b => .cons a b)
  exact aux r
theorem RepL.now (r : RepL K L H ds xs) : RepL K NoL H ds xs := by
  induction ds generalizing xs with
  | nil => cases r; exact .nil
  | cons d ds ih => cases r with | cons a b => exact .cons a.now (ih b)
theorem RepK.now (r : RepK K L H ds xs) : RepK K NoL H ds xs := by
  induction ds generalizing xs with
  | nil => cases r; exact .nil
  | cons d ds ih => cases r with | cons a b => exact .cons a.now (ih b)
theorem RepL.length : ∀ {ds : List PyData} {xs : List V}, RepL K L H ds xs → ds.length = xs.length
  | _, _, .nil => rfl
  | _, _, .cons _ t => congrArg Nat.succ t.length
theorem RepL.get : ∀ {ds : List PyData} {xs : List V} {i : Nat} {d : PyData}, RepL K L H ds xs → ds[i]? = some d → ∃ x, xs[i]? = some x ∧ Rep K L H d x
  | _, _, _, _, .nil, e => by simp at e
  | _, _, 0, _, .cons r _, e => by simp at e; subst e; exact ⟨_, rfl, r⟩
  | _, _, i + 1, d, .cons _ t, e => by
    obtain ⟨x, h1, h2⟩ := RepL.get (i := i) (d := d) t (by simpa using e)
    exact ⟨x, by simpa using h1, h2⟩
theorem RepL.append : ∀ {ds es : List PyData} {xs ys : List V}, RepL K L H ds xs → RepL K L H es ys → RepL K L H (ds ++ es) (xs ++ ys)
  | _, _, _, _, .nil, s => s
  | _, _, _, _, .cons r t, s => .cons r (RepL.append t s)
theorem RepL.take : ∀ {ds : List PyData} {xs : List V} (n : Nat), RepL K L H ds xs → RepL K L H (ds.take n) (xs.take n)
  | _, _, 0, _ => .nil
  | _, _, _ + 1, .nil => .nil
  | _, _, n + 1, .cons r t => .cons r (RepL.take n t)
theorem RepL.drop : ∀ {ds : List PyData} {xs : List V} (n : Nat), RepL K L H ds xs → RepL K L H (ds.drop n) (xs.drop n)
  | _, _, 0, r => r
  | _, _, _ + 1, .nil => .nil
  | _, _, n + 1, .cons _ t => RepL.drop n t
theorem RepL.set {d : PyData} {x : V} (r : Rep K L H d x) : ∀ {ds : List PyData} {xs : List V} (i : Nat), RepL K L H ds xs → RepL K L H (ds.set i d) (xs.set i x)
  | _, _, _, .nil => .nil
  | _, _, 0, .cons _ t => .cons r t
  | _, _, i + 1, .cons q t => .cons q (RepL.set r i t)
theorem RepL.rep {ds : List PyData} {xs : List V} (h : RepL K L H ds xs) : ∀ k : Nat, RepL K L H (List.replicate k ds).flatten (List.replicate k xs).flatten
  | 0 => .nil
  | k + 1 => by
    rw [List.replicate_succ, List.replicate_succ, List.flatten_cons, List.flatten_cons]
    exact h.append (RepL.rep h k)
theorem RepL.cut {ds : List PyData} {xs : List V} (h : RepL K L H ds xs) (lo hi : Option Int) : RepL K L H (cutL ds lo hi) (cutV xs lo hi) := by
  unfold cutL cutV
  rw [h.length]
  exact (h.drop _).take _
theorem cutL_length {α : Type} (xs : List α) (lo hi : Option Int) : (cutL xs lo hi).length ≤ xs.length := by
  unfold cutL
  rw [List.length_take, List.length_drop]
  omega
theorem RepL.nth {ds : List PyData} {xs : List V} {i : Int} {d : PyData} (h : RepL K L H ds xs) (e : atI ds i = some d) : ∃ x, atI xs i = some x ∧ Rep K L H d x := by
  unfold atI at e ⊢
  rw [← h.length]
  cases q : ixN ds.length i with
  | none => rw [q] at e; cases e
  | some j =>
    rw [q] at e
    exact h.get e
theorem RepK.keys : ∀ {ds : List (Key × PyData)} {xs : List (Key × V)}, RepK K L H ds xs → ds.map (·.1) = xs.map (·.1)
  | _, _, .nil => rfl
  | _, _, .cons _ t => by rw [List.map_cons, List.map_cons, t.keys]
theorem RepK.length {ds : List (Key × PyData)} {xs : List (Key × V)} (h : RepK K L H ds xs) : ds.length = xs.length := by
  have := congrArg List.length h.keys
  simpa using this
theorem RepK.look : ∀ {ds : List (Key × PyData)} {xs : List (Key × V)} (k : Key), RepK K L H ds xs → match lookK ds k with
    | some d => ∃ x, valV xs k = some x ∧ Rep K L H d x
    | none => valV xs k = none
  | _, _, k, .nil => rfl
  | _, _, k, .cons (k := k0) (d := d0) (ds := ds) (x := x0) (xs := xs) r t => by
    have ih := RepK.look k t
    unfold lookK valV at ih ⊢
    by_cases e : k0 = k
    · subst e
      simp only [List.find?_cons, decide_true, Option.map_some]
      exact ⟨x0, rfl, r⟩
    · simp only [List.find?_cons, e, decide_false]
      exact ih
theorem RepK.any {ds : List (Key × PyData)} {xs : List (Key × V)} (h : RepK K L H ds xs) (k : Key) : (ds.any fun p => decide (p.1 = k)) = xs.any fun p => decide (p.1 = k) := by
  have e := h.keys
  have e1 : (ds.any fun p => decide (p.1 = k)) = (ds.map (·.1)).any fun q => decide (q = k) := by rw [List.any_map]; rfl
  have e2 : (xs.any fun p => decide (p.1 = k)) = (xs.map (·.1)).any fun q => decide (q = k) := by rw [List.any_map]; rfl
  rw [e1, e2, e]
theorem RepK.app : ∀ {ds es : List (Key × PyData)} {xs ys : List (Key × V)}, RepK K L H ds xs → RepK K L H es ys → RepK K L H (ds ++ es) (xs ++ ys)
  | _, _, _, _, .nil, s => s
  | _, _, _, _, .cons r t, s => .cons r (RepK.app t s)
theorem RepK.repl {d : PyData} {x : V} (r : Rep K L H d x) (k : Key) : ∀ {ds : List (Key × PyData)} {xs : List (Key × V)}, RepK K L H ds xs →
    RepK K L H (ds.map fun p => if p.1 = k then (p.1, d) else p) (xs.map fun p => if p.1 = k then (p.1, x) else p)
  | _, _, .nil => .nil
  | _, _, .cons (k := k0) q t => by
    have ih := RepK.repl r k t
    rw [List.map_cons, List.map_cons]
    by_cases e : k0 = k
    · rw [if_pos e, if_pos e]; exact .cons r ih
    · rw [if_neg e, if_neg e]; exact .cons q ih
theorem unK_inv : ∀ {l : List (PyData × PyData)} {r : List (Key × PyData)}, unK l = some r → l = reK r
  | [], r, h => by cases h; rfl
  | (k, v) :: l, r, h => by
    unfold unK at h
    cases hk : kOf k with
    | none => rw [hk] at h; cases h
    | some k' =>
      cases hl : unK l with
      | none => rw [hk, hl] at h; cases h
      | some r' =>
        rw [hk, hl] at h
        cases h
        rw [unK_inv hl]
        have : k = kD k' := by
          cases k <;> first | (cases hk; rfl) | (exact nomatch hk)
        rw [this]
        rfl
end
end Mp
-- Mp4
set_option Elab.async false
set_option linter.all false
set_option maxRecDepth 100000
namespace Mp
open PySem PySem.Spec PyProof.Rows L2

theorem nd_ix {α : Type} {l : List α} (hN : l.Nodup) {i j : Nat} {x : α} (a : l[i]? = some x) (b : l[j]? = some x) : i = j := by
  obtain ⟨h1, e1⟩ := List.getElem?_eq_some_iff.mp a
  obtain ⟨h2, e2⟩ := List.getElem?_eq_some_iff.mp b
  exact (List.getElem_inj hN).mp (e1.trans e2.symm)
/-! ## the world -/
def Cell.live : Cell → Bool
  | .frz _ => false
  | _ => true
def Live (m : List Addr) (u : Mem) : Addr → Prop := fun a => ∃ (n : Nat) (c : Cell), m[n]? = some a ∧ u[n]? = some c ∧ c.live = true
def RepC (K : PySem.W.Frag) (L : Addr → Prop) (H : Hp) : Cell → Addr → Prop
  | .lst xs, a => xs.length ≤ sizeLine ∧ ∃ vs, H a = some (.lst vs) ∧ RepL K L H xs vs
  | .dct kvs, a => ∃ ks, H a = some (.dK ks) ∧ RepK K L H kvs ks
  | .frz x, a => Rep K L H x (.ref a) ∧ ∃ o, H a = some o
structure World (K : PySem.W.Frag) (H : Hp) (m : List Addr) (u : Mem) : Prop where
  len : m.length = u.length
  nd : m.Nodup
  cell : ∀ (n : Nat) (c : Cell) (a : Addr), u[n]? = some c → m[n]? = some a → RepC K (Live m u) H c a
structure Goes (H : Hp) (m : List Addr) (u : Mem) (H' : Hp) (m' : List Addr) (u' : Mem) : Prop where
  pre : ∀ (n : Nat) (a : Addr), m[n]? = some a → m'[n]? = some a
  gx : Gx H (Live m u) H' (Live m' u')
section
variable {K : PySem.W.Frag} {H H' H2 : Hp} {m m' m2 : List Addr} {u u' u2 : Mem}
theorem Goes.refl (H : Hp) (m : List Addr) (u : Mem) : Goes H m u H m u := ⟨fun _ _ e => e, Gx.refl _ _⟩
theorem Goes.trans (a : Goes H m u H' m' u') (b : Goes H' m' u' H2 m2 u2) : Goes H m u H2 m2 u2 := ⟨fun n x e => b.pre n x (a.pre n x e), a.gx.trans b.gx⟩
theorem RepC.there {L : Addr → Prop} {c : Cell} {a : Addr} (r : RepC K L H c a) : ∃ o, H a = some o := by
  cases c with
  | lst xs => obtain ⟨_, vs, e, _⟩ := r; exact ⟨_, e⟩
  | dct kvs => obtain ⟨ks, e, _⟩ := r; exact ⟨_, e⟩
  | frz x => exact r.2
theorem World.at (W : World K H m u) {n : Nat} {c : Cell} (e : u[n]? = some c) : ∃ a, m[n]? = some a ∧ RepC K (Live m u) H c a := by
  have h : n < m.length := by
    rw [W.len]
    exact (List.getElem?_eq_some_iff.mp e).1
  exact ⟨m[n], by simp [h], W.cell n c _ e (by simp [h])⟩
theorem World.lv (W : World K H m u) : LvOk H (Live m u) := by
  rintro a ⟨n, c, e1, e2, h⟩
  have r := W.cell n c a e2 e1
  cases c with
  | lst xs => obtain ⟨_, vs, e, _⟩ := r; exact .inl ⟨_, e⟩
  | dct kvs => obtain ⟨ks, e, _⟩ := r; exact .inr ⟨_, e⟩
  | frz x => cases h
theorem World.there (W : World K H m u) {a : Addr} (h : a ∈ m) : ∃ o, H a = some o := by
  obtain ⟨n, hn, e⟩ := List.mem_iff_getElem.mp h
  have h2 : n < u.length := by rw [← W.len]; exact hn
  exact (W.cell n u[n] a (by simp [h2]) (by simp [hn, e])).there
theorem World.fresh (W : World K H m u) {p : Addr} (h : H p = none) : p ∉ m := fun q => by
  obtain ⟨o, e⟩ := W.there q
  rw [h] at e; cases e
theorem Live.mem {a : Addr} (h : Live m u a) : a ∈ m := by
  obtain ⟨n, c, e, _⟩ := h
  exact List.mem_of_getElem? e
theorem RepC.go {L L' : Addr → Prop} (g : Gx H L H' L') (k : LvOk H L) {c : Cell} {a : Addr} (r : RepC K L H c a) (hl : c.live = true → H' a = H a) (hf : c.live = false → ∃ o, H' a = some o) : RepC K L' H' c a := by
  cases c with
  | lst xs =>
    obtain ⟨z, vs, e, q⟩ := r
    exact ⟨z, vs, (hl rfl).trans e, q.go g k⟩
  | dct kvs =>
    obtain ⟨ks, e, q⟩ := r
    exact ⟨ks, (hl rfl).trans e, q.go g k⟩
  | frz x => exact ⟨r.1.go g k, hf rfl⟩
/-- a new object beside all others -/
def Add (H H' : Hp) : Prop := H' = H ∨ ∃ p o, H p = none ∧ H' = upd H p o
theorem Add.gx (a : Add H H') {L : Addr → Prop} : Gx H L H' L := by
  rcases a with rfl | ⟨p, o, hp, rfl⟩
  · exact Gx.refl _ _
  · exact fun b q e n => ⟨by rw [upd_ne (ne_of_none e hp)]; exact e, n⟩
theorem Add.keep (a : Add H H') {b : Addr} {o : HO} (e : H b = some o) : H' b = some o := by
  rcases a with rfl | ⟨p, q, hp, rfl⟩
  · exact e
  · rw [upd_ne (ne_of_none e hp)]; exact e
theorem World.add (W : World K H m u) (a : Add H H') : World K H' m u := by
  refine ⟨W.len, W.nd, fun n c b e1 e2 => ?_⟩
  have r : RepC K (Live m u) H c b := W.cell n c b e1 e2
  obtain ⟨o, eo⟩ := r.there
  refine r.go a.gx W.lv (fun _ => ?_) fun _ => ⟨o, a.keep eo⟩
  rw [eo, a.keep eo]
theorem Goes.add (a : Add H H') : Goes H m u H' m u := ⟨fun _ _ e => e, a.gx⟩
/-- a new cell -/
theorem World.al (W : World K H m u) {p : Addr} {o : HO} {c : Cell} (hp : H p = none) (hc : ∀ L, Gx H (Live m u) (upd H p o) L → RepC K L (upd H p o) c p) : World K (upd H p o) (m ++ [p]) (u ++ [c]) ∧ Goes H m u (upd H p o) (m ++ [p]) (u ++ [c]) := by
  have hpm := W.fresh hp
  have lk : ∀ a, Live (m ++ [p]) (u ++ [c]) a → Live m u a ∨ a = p := by
    rintro a ⟨n, c', e1, e2, h⟩
    by_cases hn : n < m.length
    · rw [List.getElem?_append_left hn] at e1
      rw [List.getElem?_append_left (by rw [← W.len]; exact hn)] at e2
      exact .inl ⟨n, c', e1, e2, h⟩
    · rw [List.getElem?_append_right (by omega)] at e1
      exact .inr (by
        have := List.mem_of_getElem? e1
        simpa using this)
  have g : Gx H (Live m u) (upd H p o) (Live (m ++ [p]) (u ++ [c])) := fun a q e n => ⟨by rw [upd_ne (ne_of_none e hp)]; exact e, fun l => by
    rcases lk a l with l | l
    · exact n l
    · rw [l, hp] at e; cases e⟩
  refine ⟨⟨by simp [W.len], ?_, fun n c' a e1 e2 => ?_⟩, ⟨fun n a e => ?_, g⟩⟩
  · rw [List.nodup_append]
    exact ⟨W.nd, by simp, fun x hx y hy => by
      have : y = p := by simpa using hy
      subst this
      exact fun z => hpm (z ▸ hx)⟩
  · by_cases hn : n < m.length
    · rw [List.getElem?_append_left hn] at e2
      rw [List.getElem?_append_left (by rw [← W.len]; exact hn)] at e1
      have r : RepC K (Live m u) H c' a := W.cell n c' a e1 e2
      obtain ⟨q, eq⟩ := r.there
      have ne : a ≠ p := ne_of_none eq hp
      exact r.go g W.lv (fun _ => upd_ne ne) fun _ => ⟨q, by rw [upd_ne ne]; exact eq⟩
    · rw [List.getElem?_append_right (by omega)] at e2
      have h1 := List.mem_of_getElem? e2
      have ea : a = p := by simpa using h1
      have hu : u.length ≤ n := by rw [← W.len]; omega
      rw [List.getElem?_append_right hu] at e1
      have h2 := List.mem_of_getElem? e1
      have ec : c' = c := by simpa using h2
      subst ea ec
      exact hc _ g
  · rw [List.getElem?_append_left (List.getElem?_eq_some_iff.mp e).1]
    exact e
/-- a live cell is written -/
theorem World.wr (W : World K H m u) {n : Nat} {a : Addr} {o : HO} {c c' : Cell} (e1 : u[n]? = some c) (e2 : m[n]? = some a) (hl : c.live = true) (hl' : c'.live = true)
    (hc : ∀ L, Gx H (Live m u) (upd H a o) L → RepC K L (upd H a o) c' a) : World K (upd H a o) m (u.set n c') ∧ Goes H m u (upd H a o) m (u.set n c') := by
  have hn : n < u.length := (List.getElem?_eq_some_iff.mp e1).1
  have lk : ∀ b, Live m (u.set n c') b ↔ Live m u b := fun b => by
    constructor
    · rintro ⟨j, d, h1, h2, h3⟩
      by_cases hj : n = j
      · subst hj
        exact ⟨n, c, h1, e1, hl⟩
      · rw [List.getElem?_set_ne hj] at h2
        exact ⟨j, d, h1, h2, h3⟩
    · rintro ⟨j, d, h1, h2, h3⟩
      by_cases hj : n = j
      · subst hj
        exact ⟨n, c', h1, by rw [List.getElem?_set_self hn], hl'⟩
      · exact ⟨j, d, h1, by rw [List.getElem?_set_ne hj]; exact h2, h3⟩
  have la : Live m u a := ⟨n, c, e2, e1, hl⟩
  have g : Gx H (Live m u) (upd H a o) (Live m (u.set n c')) := fun b q e nb => ⟨by rw [upd_ne (fun z => nb (by rw [z]; exact la))]; exact e, fun l => nb ((lk b).mp l)⟩
  refine ⟨⟨by simp [W.len], W.nd, fun j d b h1 h2 => ?_⟩, ⟨fun _ _ e => e, g⟩⟩
  by_cases hj : n = j
  · subst hj
    rw [List.getElem?_set_self hn] at h1
    cases h1
    rw [e2] at h2; cases h2
    exact hc _ g
  · rw [List.getElem?_set_ne hj] at h1
    have r : RepC K (Live m u) H d b := W.cell j d b h1 h2
    obtain ⟨q, eq⟩ := r.there
    have ne : b ≠ a := fun z => by
      subst z
      exact hj (nd_ix W.nd e2 h2)
    exact r.go g W.lv (fun _ => upd_ne ne) fun _ => ⟨q, by rw [upd_ne ne]; exact eq⟩
/-- a cell is frozen -/
theorem World.fz (W : World K H m u) {n : Nat} {a : Addr} {c : Cell} {x : PyData} (e1 : u[n]? = some c) (e2 : m[n]? = some a) (hc : ∀ L, Gx H (Live m u) H L → ¬ L a → Rep K L H x (.ref a)) :
    World K H m (u.set n (.frz x)) ∧ Goes H m u H m (u.set n (.frz x)) ∧ Rep K (Live m (u.set n (.frz x))) H x (.ref a) := by
  have hn : n < u.length := (List.getElem?_eq_some_iff.mp e1).1
  have lk : ∀ b, Live m (u.set n (.frz x)) b → Live m u b := by
    rintro b ⟨j, d, h1, h2, h3⟩
    by_cases hj : n = j
    · subst hj
      rw [List.getElem?_set_self hn] at h2
      cases h2
      cases h3
    · rw [List.getElem?_set_ne hj] at h2
      exact ⟨j, d, h1, h2, h3⟩
  have na : ¬ Live m (u.set n (.frz x)) a := by
    rintro ⟨j, d, h1, h2, h3⟩
    have hj : n = j := nd_ix W.nd e2 h1
    subst hj
    rw [List.getElem?_set_self hn] at h2
    cases h2
    cases h3
  have g : Gx H (Live m u) H (Live m (u.set n (.frz x))) := fun b q e nb => ⟨e, fun l => nb (lk b l)⟩
  have rx := hc _ g na
  obtain ⟨o, eo⟩ := (W.cell n c a e1 e2).there
  refine ⟨⟨by simp [W.len], W.nd, fun j d b h1 h2 => ?_⟩, ⟨fun _ _ e => e, g⟩, rx⟩
  by_cases hj : n = j
  · subst hj
    rw [List.getElem?_set_self hn] at h1
    cases h1
    rw [e2] at h2; cases h2
    exact ⟨rx, o, eo⟩
  · rw [List.getElem?_set_ne hj] at h1
    have r : RepC K (Live m u) H d b := W.cell j d b h1 h2
    obtain ⟨q, eq⟩ := r.there
    exact r.go g W.lv (fun _ => rfl) fun _ => ⟨q, eq⟩

/-- cells are forgotten -/
theorem Live.take {k : Nat} {a : Addr} (h : Live (m.take k) (u.take k) a) : Live m u a := by
  obtain ⟨n, c, e1, e2, e3⟩ := h
  have hn : n < k := by
    have := (List.getElem?_eq_some_iff.mp e1).1
    rw [List.length_take] at this
    omega
  rw [List.getElem?_take_of_lt hn] at e1 e2
  exact ⟨n, c, e1, e2, e3⟩
theorem World.take (W : World K H m u) (k : Nat) : World K H (m.take k) (u.take k) ∧ Gx H (Live m u) H (Live (m.take k) (u.take k)) := by
  have g : Gx H (Live m u) H (Live (m.take k) (u.take k)) := fun a o e n => ⟨e, fun l => n l.take⟩
  refine ⟨⟨by rw [List.length_take, List.length_take, W.len], W.nd.sublist (List.take_sublist _ _), fun n c a e1 e2 => ?_⟩, g⟩
  have hn : n < k := by
    have := (List.getElem?_eq_some_iff.mp e1).1
    rw [List.length_take] at this
    omega
  rw [List.getElem?_take_of_lt hn] at e1 e2
  have r : RepC K (Live m u) H c a := W.cell n c a e1 e2
  obtain ⟨o, eo⟩ := r.there
  exact r.go g W.lv (fun _ => rfl) fun _ => ⟨o, eo⟩
theorem Goes.take (W0 : World K H m u) (W : World K H' m' u') (g : Goes H m u H' m' u') {k : Nat} (hk : u.length ≤ k) : World K H' (m'.take k) (u'.take k) ∧ Goes H m u H' (m'.take k) (u'.take k) := by
  obtain ⟨W2, g2⟩ := W.take k
  refine ⟨W2, fun n a e => ?_, g.gx.trans g2⟩
  have hn : n < k := by
    have := (List.getElem?_eq_some_iff.mp e).1
    rw [W0.len] at this
    omega
  rw [List.getElem?_take_of_lt hn]
  exact g.pre n a e
/-! ### values -/
/-- the law's script at a -/
def ScrL (K : PySem.W.Frag) (H : Hp) (a : Addr) (ns : List Int) : Prop := (∃ o, H a = some (.frz o (.lst (ns.map V.int)))) ∨
    ∃ (o : Obj) (its : Array Value) (n : Nat), K.lookup a = some o ∧ o.cls = .type "list" ∧ o.dict = none ∧ o.data = .seq its n ∧ its.size ≤ sizeLine ∧ Vals (ns.map V.int) its.toList
theorem ScrL.sq {a : Addr} {ns : List Int} (h : ScrL K H a ns) : SqL K H a (ns.map V.int) := by
  rcases h with ⟨o, h⟩ | h
  · exact .inl (.inr ⟨o, h⟩)
  · exact .inr h
def RepV (K : PySem.W.Frag) (H : Hp) (m : List Addr) (u : Mem) : Vl → V → Prop
  | .d d, x => Rep K (Live m u) H d x
  | .r n, x => ∃ a, m[n]? = some a ∧ x = .ref a
  | .s ns, x => ∃ a, x = .ref a ∧ ScrL K H a ns ∧ ns.length ≤ sizeLine
theorem RepV.go (W : World K H m u) (g : Goes H m u H' m' u') : ∀ {v : Vl} {x : V}, RepV K H m u v x → RepV K H' m' u' v x
  | .d d, x, r => Rep.go g.gx W.lv r
  | .r n, x, ⟨a, e, ex⟩ => ⟨a, g.pre _ _ e, ex⟩
  | .s ns, x, ⟨a, ex, h, z⟩ => by
    refine ⟨a, ex, ?_, z⟩
    rcases h with ⟨o, h⟩ | h
    · exact .inl ⟨o, (g.gx a _ h (W.lv.frz h)).1⟩
    · exact .inr h
/-- what may be read now: the top part may live -/
def Now (K : PySem.W.Frag) (L : Addr → Prop) (H : Hp) : PyData → V → Prop
  | .list ds, x => ∃ a xs, x = .ref a ∧ ds.length ≤ sizeLine ∧ H a = some (.lst xs) ∧ RepL K L H ds xs
  | .dict l, x => ∃ a kvs ks, x = .ref a ∧ l = reK kvs ∧ H a = some (.dK ks) ∧ RepK K L H kvs ks
  | d, x => Rep K L H d x
theorem Now.of {L : Addr → Prop} {d : PyData} {x : V} (r : Rep K L H d x) : Now K L H d x := by
  cases r with
  | non => exact .non
  | bl b => exact .bl b
  | int i => exact .int i
  | str z => exact .str z
  | lst z e n q => exact ⟨_, _, rfl, z, e, q⟩
  | tup z e q => exact .tup z e q
  | dct e n q => exact ⟨_, _, _, rfl, rfl, e, q⟩
theorem RepV.read (W : World K H m u) {v : Vl} {x : V} {d : PyData} (r : RepV K H m u v x) (e : rd u v = some d) : Now K (Live m u) H d x := by
  cases v with
  | d y => cases e; exact .of r
  | s ns => cases e
  | r n =>
    obtain ⟨a, ea, rfl⟩ := r
    simp only [rd] at e
    cases hc : u[n]? with
    | none => rw [hc] at e; cases e
    | some c =>
      have rc := W.cell n c a hc ea
      rw [hc] at e
      cases c with
      | lst xs =>
        cases e
        obtain ⟨z, vs, e1, q⟩ := rc
        exact ⟨_, _, rfl, z, e1, q⟩
      | dct kvs =>
        cases e
        obtain ⟨ks, e1, q⟩ := rc
        exact ⟨_, _, _, rfl, rfl, e1, q⟩
      | frz y =>
        cases e
        exact .of rc.1
/-- freezing -/
theorem fz_ok {PX : Str → List PyData → Mem → Prop} (W : World K H m u) {v : Vl} {x : V} (r : RepV K H m u v x) {d : PyData} {u' : Mem} (e : fz v u = .ok d u') : World K H m u' ∧ Goes H m u H m u' ∧ Rep K (Live m u') H d x := by
  cases v with
  | d y => cases e; exact ⟨W, Goes.refl _ _ _, r⟩
  | s ns => cases e
  | r n =>
    obtain ⟨a, ea, rfl⟩ := r
    simp only [fz] at e
    cases hc : u[n]? with
    | none => rw [hc] at e; cases e
    | some c =>
      have rc := W.cell n c a hc ea
      rw [hc] at e
      cases c with
      | lst xs =>
        cases e
        obtain ⟨z, vs, e1, q⟩ := rc
        exact W.fz hc ea fun L g na => .lst z e1 na (q.go g W.lv)
      | dct kvs =>
        cases e
        obtain ⟨ks, e1, q⟩ := rc
        exact W.fz hc ea fun L g na => .dct e1 na (q.go g W.lv)
      | frz y =>
        cases e
        exact ⟨W, Goes.refl _ _ _, rc.1⟩
end
end Mp
-- Mp5
set_option Elab.async false
set_option linter.all false
set_option maxRecDepth 100000
set_option maxHeartbeats 1000000
namespace Mp
open PySem PySem.Spec PyProof.Rows L2

/-! ## operations over the layer -/
section
variable {K : PySem.W.Frag} {L : Addr → Prop} {H : Hp} {d : PyData} {x : V}
theorem Now.none (h : Now K L H .none x) : x = .non := by cases (show Rep K L H .none x from h); rfl
theorem Now.bool {b : Bool} (h : Now K L H (.bool b) x) : x = .bl b := by cases (show Rep K L H (.bool b) x from h); rfl
theorem Now.int {i : Int} (h : Now K L H (.int i) x) : x = .int i := by cases (show Rep K L H (.int i) x from h); rfl
theorem Now.str {z : Str} (h : Now K L H (.str z) x) : x = .str z := by cases (show Rep K L H (.str z) x from h); rfl
theorem Now.tup {ds : List PyData} (h : Now K L H (.tuple ds) x) : ∃ a xs, x = .ref a ∧ ds.length ≤ sizeLine ∧ SqT K H a xs ∧ RepL K L H ds xs := by
  cases (show Rep K L H (.tuple ds) x from h) with
  | tup z e q => exact ⟨_, _, rfl, z, e, q⟩
theorem Now.lst {ds : List PyData} (h : Now K L H (.list ds) x) : ∃ a xs, x = .ref a ∧ ds.length ≤ sizeLine ∧ H a = some (.lst xs) ∧ RepL K L H ds xs := h
theorem Now.dct {l : List (PyData × PyData)} (h : Now K L H (.dict l) x) : ∃ a kvs ks, x = .ref a ∧ l = reK kvs ∧ H a = some (.dK ks) ∧ RepK K L H kvs ks := h
theorem Rep.int' {i : Int} (h : Rep K L H (.int i) x) : x = .int i := by cases h; rfl
theorem Rep.bool' {b : Bool} (h : Rep K L H (.bool b) x) : x = .bl b := by cases h; rfl
theorem Rep.str' {z : Str} (h : Rep K L H (.str z) x) : x = .str z := by cases h; rfl
theorem newL (k : LvOk H L) {p : Addr} (hp : H p = none) : ¬ L p := fun l => by
  rcases k p l with ⟨_, e⟩ | ⟨_, e⟩ <;> (rw [hp] at e; cases e)
theorem RepL.add {H' : Hp} (a : Add H H') (k : LvOk H L) {ds : List PyData} {xs : List V} (r : RepL K L H ds xs) : RepL K L H' ds xs := r.go a.gx k
theorem Add.new {p : Addr} {o : HO} (hp : H p = none) : Add H (upd H p o) := .inr ⟨p, o, hp, rfl⟩
theorem Rep.newLst (k : LvOk H L) {ds : List PyData} {xs : List V} (r : RepL K L H ds xs) (z : ds.length ≤ sizeLine) {p : Addr} (hp : H p = none) : Rep K L (upd H p (.lst xs)) (.list ds) (.ref p) :=
  .lst z upd_same (newL k hp) (r.add (.new hp) k)
theorem Rep.newTup (k : LvOk H L) {ds : List PyData} {xs : List V} (r : RepL K L H ds xs) (z : ds.length ≤ sizeLine) {p : Addr} (hp : H p = none) : Rep K L (upd H p (.tup xs)) (.tuple ds) (.ref p) :=
  .tup z (.of upd_same) (r.add (.new hp) k)
theorem canLay_cons {d : PyData} {ds : List PyData} : PyData.canLayAll0 (d :: ds) = true ↔ d.canLay0 = true ∧ PyData.canLayAll0 ds = true := by simp [PyData.canLayAll0]
/-- data without dicts, for the layer's rules about data -/
theorem Rep.dp : ∀ {d : PyData} {x : V}, Rep K L H d x → d.canLay0 = true → Dp K H x d := by
  intro d x h
  exact h.rec (motive_1 := fun d x _ => d.canLay0 = true → Dp K H x d) (motive_2 := fun ds xs _ => PyData.canLayAll0 ds = true → DpAll K H xs ds) (motive_3 := fun _ _ _ => True)
    (fun _ => .non) (fun b _ => .bl b) (fun i _ => .int i) (fun x _ => .str x) (fun _ e _ _ ih c => .lst (.of e) (ih (by simpa [PyData.canLay0] using c))) (fun _ e _ ih c => .tup e (ih (by simpa [PyData.canLay0] using c)))
    (fun _ _ _ _ c => by simp [PyData.canLay0] at c) (fun _ => .nil) (fun _ _ a b c => by
      exact .cons (a (canLay_cons.mp c).1) (b (canLay_cons.mp c).2)) trivial (fun _ _ _ _ => trivial)
theorem RepL.dp : ∀ {ds : List PyData} {xs : List V}, RepL K L H ds xs → PyData.canLayAll0 ds = true → DpAll K H xs ds
  | _, _, .nil, _ => .nil
  | _, _, .cons r t, c => by
    exact .cons (r.dp (canLay_cons.mp c).1) (RepL.dp t (canLay_cons.mp c).2)
theorem Now.dp (h : Now K L H d x) (c : d.canLay0 = true) : Dp K H x d := by
  cases d with
  | none => exact Rep.dp h c
  | bool b => exact Rep.dp h c
  | int i => exact Rep.dp h c
  | str z => exact Rep.dp h c
  | tuple ds => exact Rep.dp h c
  | list ds =>
    obtain ⟨a, xs, rfl, z, e, q⟩ := h.lst
    exact .lst (.of e) (q.dp (by simpa [PyData.canLay0] using c))
  | dict l => simp [PyData.canLay0] at c
end

def bopO : Bo → Operator
  | .add => .Add
  | .sub => .Sub
  | .mul => .Mult
  | .fdiv => .FloorDiv
  | .mod => .Mod
  | .pow => .Pow
def rBin (K : PySem.W.Frag) (o : Bo) : R2 := fun x y H Q => ∃ L p q d, LvOk H L ∧ Now K L H p x ∧ Now K L H q y ∧ binop o p q = some d ∧ ∀ z H', Add H H' → Rep K L H' d z → Q z H'
section
variable {X : Cx}
theorem okI_of {i : Int} (h : okI i = true) : -(2 ^ 64) < i ∧ i < 2 ^ 64 := by simpa [okI] using h
theorem bin_ok (o : Bo) : OpR X (binaryOp (bopO o)) (rBin X.K o) := by
  intro pins s σ H x y v u Q I rx ry h
  obtain ⟨L, p, q, d, lv, hp, hq, e, k⟩ := h
  unfold binop at e
  split at e
  · cases e; cases hp.int; cases hq.int
    exact op_add pins s σ H _ _ v u Q I rx ry ⟨_, _, rfl, rfl, k _ _ (.inl rfl) (.int _)⟩
  · cases e; cases hp.int; cases hq.int
    exact op_sub pins s σ H _ _ v u Q I rx ry ⟨_, _, rfl, rfl, k _ _ (.inl rfl) (.int _)⟩
  · cases hp.int; cases hq.int
    split at e
    · rename_i c
      cases e
      refine op_mul pins s σ H _ _ v u Q I rx ry ⟨_, _, rfl, rfl, ?_, k _ _ (.inl rfl) (.int _)⟩
      rcases Bool.or_eq_true_iff.mp c with c | c
      · exact .inl (okI_of c)
      · exact .inr (okI_of c)
    · cases e
  · cases hp.int; cases hq.int
    split at e
    · rename_i c
      cases e
      exact op_fdiv pins s σ H _ _ v u Q I rx ry ⟨_, _, rfl, rfl, c, k _ _ (.inl rfl) (.int _)⟩
    · cases e
  · cases hp.int; cases hq.int
    split at e
    · rename_i c
      cases e
      exact op_mod pins s σ H _ _ v u Q I rx ry ⟨_, _, rfl, rfl, c, k _ _ (.inl rfl) (.int _)⟩
    · cases e
  · cases hp.int; cases hq.int
    split at e
    · rename_i c
      cases e
      exact op_pow pins s σ H _ _ v u Q I rx ry ⟨_, _, rfl, rfl, c, k _ _ (.inl rfl) (.int _)⟩
    · cases e
  · cases hp.str; cases hq.str
    split at e
    · rename_i c
      cases e
      exact op_add_str pins s σ H _ _ v u Q I rx ry ⟨_, _, rfl, rfl, c, k _ _ (.inl rfl) (.str _)⟩
    · cases e
  · obtain ⟨a, xs, rfl, z1, e1, q1⟩ := hp.lst
    obtain ⟨b, ys, rfl, z2, e2, q2⟩ := hq.lst
    split at e
    · rename_i c
      cases e
      refine op_cat pins s σ H _ _ v u Q I rx ry ⟨_, _, _, _, rfl, rfl, e1, e2, by rw [← q1.length, ← q2.length]; exact c, fun p hp => ?_⟩
      exact k _ _ (.new hp) (.newLst lv (q1.append q2) (by rw [List.length_append]; exact c) hp)
    · cases e
  · obtain ⟨a, xs, rfl, z1, e1, q1⟩ := hp.tup
    obtain ⟨b, ys, rfl, z2, e2, q2⟩ := hq.tup
    split at e
    · rename_i c
      cases e
      have q3 := q1.append q2
      refine op_catA pins s σ H _ _ v u Q I rx ry ⟨_, _, _, _, rfl, rfl, e1, e2, by rw [← q1.length, ← q2.length]; exact c, fun hx => ?_, fun _ hy => ?_, fun _ _ p hp => ?_⟩
      · subst hx
        cases q1
        exact k _ _ (.inl rfl) (.tup z2 e2 q2)
      · subst hy
        cases q2
        rw [List.append_nil] at k
        exact k _ _ (.inl rfl) (.tup z1 e1 q1)
      · exact k _ _ (.new hp) (.newTup lv q3 (by rw [List.length_append]; exact c) hp)
    · cases e
  · obtain ⟨a, xs, rfl, z1, e1, q1⟩ := hp.lst
    cases hq.int
    split at e
    · rename_i c
      cases e
      refine op_rep pins s σ H _ _ v u Q I rx ry ⟨_, _, _, rfl, rfl, e1, c.1, c.2.1, by rw [← q1.length]; exact c.2.2, fun p hp => ?_⟩
      refine k _ _ (.new hp) (.newLst lv (q1.rep _) ?_ hp)
      have e3 : ∀ (n : Nat) (l : List PyData), (List.replicate n l).flatten.length = l.length * n := by
        intro n l
        induction n with
        | zero => simp
        | succ n ih => rw [List.replicate_succ, List.flatten_cons, List.length_append, ih, Nat.mul_succ]; omega
      rw [e3]; exact c.2.2
    · cases e
  · cases e

def rNeg (K : PySem.W.Frag) : V → Hp → VK → Prop := fun x H Q => ∃ L p d, Now K L H p x ∧ negop p = some d ∧ ∀ z, Rep K L H d z → Q z H
theorem neg_ok : UnR X (unaryOp .USub) (rNeg X.K) := by
  intro pins s σ H x v Q I rx h
  obtain ⟨L, p, d, hp, e, k⟩ := h
  cases p with
  | int i =>
    cases e
    cases hp.int
    exact un_neg pins s σ H _ v Q I rx ⟨_, rfl, k _ (.int _)⟩
  | _ => cases e

/-! ### comparisons -/
def copO : Co → CmpOp
  | .eq => .Eq
  | .ne => .NotEq
  | .lt => .Lt
  | .le => .LtE
  | .gt => .Gt
  | .ge => .GtE
  | .is => .Is
  | .isn => .IsNot
  | .inn => .In
  | .nin => .NotIn
def rCmp (K : PySem.W.Frag) (o : Co) : R2 := fun x y H Q => ∃ L p q b, Now K L H p x ∧ Now K L H q y ∧ cmpop o p q = some b ∧ Q (.bl b) H
theorem scal_of {K : PySem.W.Frag} {L : Addr → Prop} {H : Hp} {p q : PyData} {x y : V} (hp : Now K L H p x) (hq : Now K L H q y) (h : scalD p q = true) : scal x y = true ∧ decide (x = y) = PyData.eqv p q := by
  cases p with
  | none => cases q with
    | none => cases hp.none; cases hq.none; exact ⟨rfl, rfl⟩
    | bool b => cases hp.none; cases hq.bool; exact ⟨rfl, rfl⟩
    | int b => cases hp.none; cases hq.int; exact ⟨rfl, rfl⟩
    | str b => cases hp.none; cases hq.str; exact ⟨rfl, rfl⟩
    | _ => cases h
  | bool a => cases q with
    | none => cases hp.bool; cases hq.none; exact ⟨rfl, rfl⟩
    | bool b => cases hp.bool; cases hq.bool; exact ⟨rfl, by simp only [PyData.eqv]; exact dec_bl⟩
    | int b => cases h
    | str b => cases hp.bool; cases hq.str; exact ⟨rfl, rfl⟩
    | _ => cases h
  | int a => cases q with
    | none => cases hp.int; cases hq.none; exact ⟨rfl, rfl⟩
    | bool b => cases h
    | int b => cases hp.int; cases hq.int; exact ⟨rfl, by simp only [PyData.eqv]; exact dec_int⟩
    | str b => cases hp.int; cases hq.str; exact ⟨rfl, rfl⟩
    | _ => cases h
  | str a => cases q with
    | none => cases hp.str; cases hq.none; exact ⟨rfl, rfl⟩
    | bool b => cases hp.str; cases hq.bool; exact ⟨rfl, rfl⟩
    | int b => cases hp.str; cases hq.int; exact ⟨rfl, rfl⟩
    | str b => cases hp.str; cases hq.str; exact ⟨rfl, by simp only [PyData.eqv]; exact dec_str⟩
    | _ => cases h
  | _ => cases q <;> cases h
theorem flat_of {K : PySem.W.Frag} {L : Addr → Prop} {H : Hp} {p : PyData} {x : V} (hp : Rep K L H p x) (h : flatD p = true) : flatV x = true := by
  cases hp <;> first | rfl | cases h
theorem eqV_of {K : PySem.W.Frag} {L : Addr → Prop} {H : Hp} {p q : PyData} {x y : V} (hp : Rep K L H p x) (hq : Rep K L H q y) (h : flatD p = true) (h' : flatD q = true) : eqV x y = PyData.eqv p q := by
  cases hp <;> first
    | (cases h; done)
    | (cases hq <;> first | (cases h'; done) | rfl)
theorem flats_of {K : PySem.W.Frag} {L : Addr → Prop} {H : Hp} : ∀ {ds : List PyData} {xs : List V}, RepL K L H ds xs → ds.all flatD = true → xs.all flatV = true
  | _, _, .nil, _ => rfl
  | _, _, .cons r t, h => by
    rw [List.all_cons, Bool.and_eq_true] at h ⊢
    exact ⟨flat_of r h.1, flats_of t h.2⟩
theorem inV_of {K : PySem.W.Frag} {L : Addr → Prop} {H : Hp} {p : PyData} {x : V} (hp : Rep K L H p x) (f : flatD p = true) : ∀ {ds : List PyData} {xs : List V}, RepL K L H ds xs → ds.all flatD = true → inV x xs = ds.any fun y => PyData.eqv y p
  | _, _, .nil, _ => rfl
  | _, _, .cons r t, h => by
    rw [List.all_cons, Bool.and_eq_true] at h
    have ih := inV_of hp f t h.2
    unfold inV at ih ⊢
    rw [List.any_cons, List.any_cons, ih, eqV_of r hp h.1 f]
theorem Now.flat {K : PySem.W.Frag} {L : Addr → Prop} {H : Hp} {p : PyData} {x : V} (h : Now K L H p x) (f : flatD p = true) : Rep K L H p x := by
  cases p with
  | none => exact h
  | bool _ => exact h
  | int _ => exact h
  | str _ => exact h
  | _ => cases f
theorem kOf_inv {p : PyData} {k : Key} (e : kOf p = some k) : p = kD k := by
  cases p <;> first | (cases e; rfl) | (exact nomatch e)
theorem Now.key {K : PySem.W.Frag} {L : Addr → Prop} {H : Hp} {p : PyData} {x : V} {k : Key} (h : Now K L H p x) (e : kOf p = some k) : x = kV k := by
  rw [kOf_inv e] at h
  cases k with
  | inl i => exact h.int
  | inr z => exact h.str
theorem in_ok {neg : Bool} (hu : X.A.units + 1 < cLine) : OpR X (compareOp (if neg then .NotIn else .In)) (fun x y H Q => ∃ L p q b, Now X.K L H p x ∧ Now X.K L H q y ∧ inop p q = some b ∧ Q (.bl (if neg then !b else b)) H) := by
  intro pins s σ H x y v u Q I rx ry h
  obtain ⟨L, p, q, b, hp, hq, e, k⟩ := h
  unfold inop at e
  split at e
  · split at e
    · rename_i c
      cases e
      rw [Bool.and_eq_true] at c
      obtain ⟨a, xs, rfl, z, e1, q1⟩ := hq.lst
      have rp := hp.flat c.1
      have hi := inV_of rp c.1 q1 c.2
      rw [← hi] at k
      cases neg with
      | true => exact op_notIn_seq pins s σ H _ _ v u Q I rx ry ⟨_, _, rfl, .inl (.of e1), flat_of rp c.1, flats_of q1 c.2, k⟩
      | false => exact op_in_seq pins s σ H _ _ v u Q I rx ry ⟨_, _, rfl, .inl (.of e1), flat_of rp c.1, flats_of q1 c.2, k⟩
    · cases e
  · split at e
    · rename_i c
      cases e
      rw [Bool.and_eq_true] at c
      obtain ⟨a, xs, rfl, z, e1, q1⟩ := hq.tup
      have rp := hp.flat c.1
      have hi := inV_of rp c.1 q1 c.2
      rw [← hi] at k
      cases neg with
      | true => exact op_notIn_seq pins s σ H _ _ v u Q I rx ry ⟨_, _, rfl, .inr e1, flat_of rp c.1, flats_of q1 c.2, k⟩
      | false => exact op_in_seq pins s σ H _ _ v u Q I rx ry ⟨_, _, rfl, .inr e1, flat_of rp c.1, flats_of q1 c.2, k⟩
    · cases e
  · obtain ⟨a, kvs, ks, rfl, rfl, e1, q1⟩ := hq.dct
    split at e
    · rename_i kk l c1 c2
      rw [unK_reK] at c2
      cases c2
      cases e
      cases hp.key c1
      cases ry
      have hl := q1.any kk
      have hs : (valV ks kk).isSome = (ks.any fun p => decide (p.1 = kk)) := by
        unfold valV
        rw [Option.isSome_map, Bool.eq_iff_iff, List.find?_isSome, List.any_eq_true]
      rw [hl, ← hs] at k
      cases neg with
      | true => exact d_notIn hu I (.k e1) rx fun s' I' => ⟨.bl _, H, I', rfl, k⟩
      | false => exact d_in hu I (.k e1) rx fun s' I' => ⟨.bl _, H, I', rfl, k⟩
    · cases e
  · cases hp.str; cases hq.str
    split at e
    · rename_i c z cs e1
      cases e
      have e2 : ∀ w : Str, w.cps.toList = [cs] → w = ⟨#[cs]⟩ := fun w h => Str.ext' (Array.toList_inj.mp h)
      have e3 := e2 _ e1
      subst e3
      cases neg with
      | true => exact op_notIn_sign pins s σ H _ _ v u Q I rx ry ⟨_, _, rfl, rfl, k⟩
      | false => exact op_in_sign pins s σ H _ _ v u Q I rx ry ⟨_, _, rfl, rfl, k⟩
    · cases e
  · cases e
theorem is_ok {neg : Bool} : OpR X (compareOp (if neg then .IsNot else .Is)) (fun x y H Q => ∃ L p q b, Now X.K L H p x ∧ Now X.K L H q y ∧ isop p q = some b ∧ Q (.bl (if neg then !b else b)) H) := by
  intro pins s σ H x y v u Q I rx ry h
  obtain ⟨L, p, q, b, hp, hq, e, k⟩ := h
  have toN : ∀ {c : Bool}, y = .non → decide (x = .non) = c → Q (.bl (if neg then !c else c)) H → wpAny (model X.prog X.w) X.A (compareOp (if neg then .IsNot else .Is) v u) (EP X pins σ Q) X.xe s := by
    intro c ey ec k
    subst ey
    subst ec
    cases neg with
    | true => exact op_notN pins s σ H _ _ v u Q I rx ry ⟨rfl, k⟩
    | false => exact op_isN pins s σ H _ _ v u Q I rx ry ⟨rfl, k⟩
  unfold isop at e
  split at e
  · cases e; cases hp.none; exact toN hq.none rfl k
  · cases e; cases hp.bool; exact toN hq.none rfl k
  · cases e; cases hp.int; exact toN hq.none rfl k
  · cases e; cases hp.str; exact toN hq.none rfl k
  · cases e; obtain ⟨a, xs, rfl, _⟩ := hp.tup; exact toN hq.none rfl k
  · cases e; obtain ⟨a, xs, rfl, _⟩ := hp.lst; exact toN hq.none rfl k
  · cases e
    cases hp.bool; cases hq.bool
    rename_i a b
    have e2 : (a == b) = decide (a = b) := by cases a <;> cases b <;> rfl
    rw [e2] at k
    cases neg with
    | true => exact op_isnot_bl pins s σ H _ _ v u Q I rx ry ⟨_, _, rfl, rfl, k⟩
    | false => exact op_is_bl pins s σ H _ _ v u Q I rx ry ⟨_, _, rfl, rfl, k⟩
  · cases e
theorem eq_ok {neg : Bool} (hu : X.A.units + 64 < cLine) : OpR X (compareOp (if neg then .NotEq else .Eq)) (fun x y H Q => ∃ L p q b, Now X.K L H p x ∧ Now X.K L H q y ∧ eqop p q = some b ∧ Q (.bl (if neg then !b else b)) H) := by
  intro pins s σ H x y v u Q I rx ry h
  obtain ⟨L, p, q, b, hp, hq, e, k⟩ := h
  unfold eqop at e
  split at e
  · rename_i c
    cases e
    obtain ⟨h1, h2⟩ := scal_of hp hq c
    rw [← h2] at k
    cases neg with
    | true => exact op_ne pins s σ H _ _ v u Q I rx ry ⟨h1, k⟩
    | false => exact op_eq pins s σ H _ _ v u Q I rx ry ⟨h1, k⟩
  · split at e
    · rename_i c
      cases e
      rw [Bool.and_eq_true] at c
      have d1 := hp.dp (SeqAt.canLay_of_shaped c.1)
      have d2 := hq.dp (SeqAt.canLay_of_shaped c.2)
      cases neg with
      | true => exact op_neD hu pins s σ H _ _ v u Q I rx ry ⟨_, _, d1, d2, c.1, c.2, k⟩
      | false => exact op_eqD hu pins s σ H _ _ v u Q I rx ry ⟨_, _, d1, d2, c.1, c.2, k⟩
    · cases e
theorem cmp_ok (hu : X.A.units + 64 < cLine) (o : Co) : OpR X (compareOp (copO o)) (rCmp X.K o) := by
  intro pins s σ H x y v u Q I rx ry h
  obtain ⟨L, p, q, b, hp, hq, e, k⟩ := h
  have hu1 : X.A.units + 1 < cLine := by omega
  have nt : ∀ {o : Option Bool}, o.map (!·) = some b → ∃ c, o = some c ∧ b = !c := by
    intro o e
    cases o with
    | none => cases e
    | some c => cases e; exact ⟨c, rfl, rfl⟩
  cases o with
  | eq => exact eq_ok (neg := false) hu pins s σ H x y v u Q I rx ry ⟨L, p, q, b, hp, hq, e, k⟩
  | ne =>
    obtain ⟨c, e1, rfl⟩ := nt e
    exact eq_ok (neg := true) hu pins s σ H x y v u Q I rx ry ⟨L, p, q, c, hp, hq, e1, k⟩
  | lt =>
    cases p <;> cases q <;> first | (cases e; done) | skip
    cases e; cases hp.int; cases hq.int
    exact op_lt pins s σ H _ _ v u Q I rx ry ⟨_, _, rfl, rfl, k⟩
  | le =>
    cases p <;> cases q <;> first | (cases e; done) | skip
    cases e; cases hp.int; cases hq.int
    exact op_le pins s σ H _ _ v u Q I rx ry ⟨_, _, rfl, rfl, k⟩
  | gt =>
    cases p <;> cases q <;> first | (cases e; done) | skip
    cases e; cases hp.int; cases hq.int
    exact op_gt pins s σ H _ _ v u Q I rx ry ⟨_, _, rfl, rfl, k⟩
  | ge =>
    cases p <;> cases q <;> first | (cases e; done) | skip
    cases e; cases hp.int; cases hq.int
    exact op_ge pins s σ H _ _ v u Q I rx ry ⟨_, _, rfl, rfl, k⟩
  | inn => exact in_ok (neg := false) hu1 pins s σ H x y v u Q I rx ry ⟨L, p, q, b, hp, hq, e, k⟩
  | nin =>
    obtain ⟨c, e1, rfl⟩ := nt e
    exact in_ok (neg := true) hu1 pins s σ H x y v u Q I rx ry ⟨L, p, q, c, hp, hq, e1, k⟩
  | is => exact is_ok (neg := false) pins s σ H x y v u Q I rx ry ⟨L, p, q, b, hp, hq, e, k⟩
  | isn =>
    obtain ⟨c, e1, rfl⟩ := nt e
    exact is_ok (neg := true) pins s σ H x y v u Q I rx ry ⟨L, p, q, c, hp, hq, e1, k⟩
end
end Mp
-- Mp6
set_option Elab.async false
set_option linter.all false
set_option maxRecDepth 100000
set_option maxHeartbeats 1000000
namespace Mp
open PySem PySem.Spec PyProof.Rows L2
section
variable {X : Cx}
/-! ### subscripts -/
def rIdx (K : PySem.W.Frag) : R2 := fun x y H Q => ∃ L p q d, Now K L H p x ∧ Now K L H q y ∧ idxop p q = some d ∧ ∀ z, Rep K L H d z → Q z H
theorem idx_ok (hu : X.A.units + 1 < cLine) : IxR X (rIdx X.K) := by
  intro value slice pins s σ H x y v u Q I rx ry h hs
  obtain ⟨L, p, q, d, hp, hq, e, k⟩ := h
  unfold idxop at e
  split at e
  · obtain ⟨a, xs, rfl, z, e1, q1⟩ := hp.lst
    cases hq.int
    obtain ⟨w, e2, rw'⟩ := q1.nth e
    exact ix_list value slice pins s σ H _ _ v u Q I rx ry ⟨_, _, _, _, rfl, rfl, .of e1, e2, k _ rw'⟩ hs
  · obtain ⟨a, xs, rfl, z, e1, q1⟩ := hp.tup
    cases hq.int
    obtain ⟨w, e2, rw'⟩ := q1.nth e
    exact ix_tup value slice pins s σ H _ _ v u Q I rx ry ⟨_, _, _, _, rfl, rfl, e1, e2, k _ rw'⟩ hs
  · cases hp.str; cases hq.int
    split at e
    · rename_i c
      obtain ⟨w, e2, rfl⟩ := Option.map_eq_some_iff.mp e
      exact ix_str value slice pins s σ H _ _ v u Q I rx ry ⟨_, _, _, rfl, rfl, c, e2, k _ (.str _)⟩ hs
    · cases e
  · obtain ⟨a, kvs, ks, rfl, rfl, e1, q1⟩ := hp.dct
    split at e
    · rename_i kk l c1 c2
      rw [unK_reK] at c2
      cases c2
      cases hq.key c1
      have hl := q1.look kk
      rw [e] at hl
      obtain ⟨w, e2, rw'⟩ := hl
      cases rx
      have g : DGet H a (kV kk) (some w) := by
        rw [← e2]
        exact .k e1
      exact tail_any (dict_typeIs I g) PySem.F.slot_dict_getitem.lookup (d_getItem hu I g ry fun w' s' I' r' => ⟨w, H, I', r', k _ rw'⟩) hs
    · cases e
  · cases e
/-- slices: of data, of the script -/
def rSlo (K : PySem.W.Frag) : V → Option Int → Option Int → Hp → VK → Prop := fun x lo hi H Q => ∃ L d, LvOk H L ∧ ((∃ p, Now K L H p x ∧ slop p lo hi = some d) ∨ ∃ a ns, x = .ref a ∧ ScrL K H a ns ∧ ns.length ≤ sizeLine ∧ d = .list ((cutL ns lo hi).map .int)) ∧ ∀ z H', Add H H' → Rep K L H' d z → Q z H'
theorem cutV_ints (ns : List Int) (lo hi : Option Int) : cutV (ns.map V.int) lo hi = (cutL ns lo hi).map V.int := by
  unfold cutV cutL
  rw [List.length_map, List.map_take, List.map_drop]
theorem RepL.ints {K : PySem.W.Frag} {L : Addr → Prop} {H : Hp} : ∀ ns : List Int, RepL K L H (ns.map .int) (ns.map V.int)
  | [] => .nil
  | n :: ns => .cons (.int n) (RepL.ints ns)
theorem slo_ok : SlR X (rSlo X.K) := by
  intro pins s σ H x v vl vu lo hi sl Q I rx hs pl pu h
  obtain ⟨L, d, lv, h, k⟩ := h
  rcases h with ⟨p, hp, e⟩ | ⟨a, ns, rfl, hq, hz, rfl⟩
  · unfold slop at e
    split at e
    · cases e
      obtain ⟨a, xs, rfl, z, e1, q1⟩ := hp.lst
      exact sl_list pins s σ H _ v vl vu _ _ sl Q I rx hs pl pu ⟨_, _, rfl, .of e1, fun p hp => k _ _ (.new hp) (.newLst lv (q1.cut _ _) (Nat.le_trans (cutL_length _ _ _) z) hp)⟩
    · cases e
      rename_i ds _ _
      obtain ⟨a, xs, rfl, z, e1, q1⟩ := hp.tup
      refine sl_tupA pins s σ H _ v vl vu _ _ sl Q I rx hs pl pu ⟨_, _, rfl, e1, fun hw => ?_, fun hw p hp => k _ _ (.new hp) (.newTup lv (q1.cut _ _) (Nat.le_trans (cutL_length _ _ _) z) hp)⟩
      have hl := q1.length
      have e2 : ∀ ds : List PyData, ds.length = xs.length → cutL ds _ _ = ds := fun ds hl => by
        unfold cutL
        rw [hl, hw.1, hw.2, List.drop_zero, Nat.sub_zero, ← hl, List.take_length]
      rw [e2 _ hl] at k
      exact k _ _ (.inl rfl) (.tup z e1 q1)
    · cases hp.str
      split at e
      · rename_i c
        cases e
        exact sl_str pins s σ H _ v vl vu _ _ sl Q I rx hs pl pu ⟨_, rfl, c, k _ _ (.inl rfl) (.str _)⟩
      · cases e
    · cases e
  · refine sl_list pins s σ H _ v vl vu _ _ sl Q I rx hs pl pu ⟨_, _, rfl, hq.sq, fun p hp => k _ _ (.new hp) ?_⟩
    rw [cutV_ints]
    exact .newLst lv (.ints _) (by rw [List.length_map]; exact Nat.le_trans (cutL_length _ _ _) hz) hp
/-! ### built-ins of one argument -/
def RepOut (K : PySem.W.Frag) (L : Addr → Prop) (H : Hp) : Out → V → Hp → Prop
  | .val d, z, H' => Add H H' ∧ Rep K L H' d z
  | .lst ds, z, H' => ∃ p vs, z = .ref p ∧ H p = none ∧ H' = upd H p (.lst vs) ∧ ds.length ≤ sizeLine ∧ RepL K L H ds vs
  | .dct kvs, z, H' => ∃ p ks, z = .ref p ∧ H p = none ∧ H' = upd H p (.dK ks) ∧ RepK K L H kvs ks
def rBlt (K : PySem.W.Frag) (b : Bt) : List V → Hp → VK → Prop := fun xs H Q => ∃ L p x o, LvOk H L ∧ xs = [x] ∧ Now K L H p x ∧ bltop b p = some o ∧ ∀ z H', RepOut K L H o z H' → Q z H'
def btV : Bt → Value
  | .len => .builtin "len"
  | .tuple => .type "tuple"
  | .list => .type "list"
  | .str => .type "str"
  | .int => .type "int"
  | .sum => .builtin "sum"
  | .all => .builtin "all"
  | .any => .builtin "any"
  | .dict => .type "dict"
theorem intsOf_inv {K : PySem.W.Frag} {L : Addr → Prop} {H : Hp} : ∀ {ds : List PyData} {xs : List V} {ns : List Int}, RepL K L H ds xs → intsOf ds = some ns → xs = ns.map V.int
  | _, _, _, .nil, e => by cases e; rfl
  | _, _, ns, .cons (d := d) r t, e => by
    cases d with
    | int i =>
      cases r
      simp only [intsOf] at e
      obtain ⟨l, e1, rfl⟩ := Option.map_eq_some_iff.mp e
      rw [intsOf_inv t e1]
      rfl
    | _ => cases e
theorem boolsOf_inv {K : PySem.W.Frag} {L : Addr → Prop} {H : Hp} : ∀ {ds : List PyData} {xs : List V} {ns : List Bool}, RepL K L H ds xs → boolsOf ds = some ns → xs = ns.map V.bl
  | _, _, _, .nil, e => by cases e; rfl
  | _, _, ns, .cons (d := d) r t, e => by
    cases d with
    | bool i =>
      cases r
      simp only [boolsOf] at e
      obtain ⟨l, e1, rfl⟩ := Option.map_eq_some_iff.mp e
      rw [boolsOf_inv t e1]
      rfl
    | _ => cases e
theorem strsOf_inv {K : PySem.W.Frag} {L : Addr → Prop} {H : Hp} : ∀ {ds : List PyData} {xs : List V} {ns : List Str}, RepL K L H ds xs → strsOf ds = some ns → xs = ns.map V.str
  | _, _, _, .nil, e => by cases e; rfl
  | _, _, ns, .cons (d := d) r t, e => by
    cases d with
    | str i =>
      cases r
      simp only [strsOf] at e
      obtain ⟨l, e1, rfl⟩ := Option.map_eq_some_iff.mp e
      rw [strsOf_inv t e1]
      rfl
    | _ => cases e
theorem kD_rep {K : PySem.W.Frag} {L : Addr → Prop} {H : Hp} {p : PyData} {x : V} {k : Key} (h : Rep K L H p x) (e : kOf p = some k) : x = kV k := (Now.of h).key e
/-- pairs as the layer's rule about dict(list) has them -/
theorem pairsOf_inv {K : PySem.W.Frag} {L : Addr → Prop} {H : Hp} : ∀ {ds : List PyData} {xs : List V} {l : List (Key × PyData)}, RepL K L H ds xs → pairsOf ds = some l →
    ∃ (ps : List Addr) (kvs : List (Key × V)), xs = ps.map V.ref ∧ Paired (fun p kv => SqT K H p [kV kv.1, kv.2]) ps kvs ∧ RepK K L H l kvs
  | _, _, _, .nil, e => by cases e; exact ⟨[], [], rfl, .nil, .nil⟩
  | _, _, l, .cons (d := d) r t, e => by
    unfold pairsOf at e
    split at e
    · rename_i h; cases h
    · rename_i k v rest h
      cases h
      split at e
      · rename_i kk ll e1 e2
        cases e
        obtain ⟨ps, kvs, rfl, hp, hr⟩ := pairsOf_inv t e2
        cases r with
        | tup z eT q =>
          cases q with
          | cons rk q =>
            cases q with
            | cons rv q =>
              cases q
              cases kD_rep rk e1
              exact ⟨_ :: ps, (kk, _) :: kvs, rfl, .cons eT hp, .cons rv hr⟩
      · cases e
    · cases e
theorem RepK.put {K : PySem.W.Frag} {L : Addr → Prop} {H : Hp} {ds : List (Key × PyData)} {xs : List (Key × V)} (h : RepK K L H ds xs) (k : Key) {d : PyData} {x : V} (r : Rep K L H d x) : RepK K L H (putKK ds k d) (putK xs k x) := by
  unfold putKK putK
  rw [h.any k]
  split
  · exact h.repl r k
  · exact h.app (.cons r .nil)
theorem RepK.merge {K : PySem.W.Frag} {L : Addr → Prop} {H : Hp} : ∀ {l ds : List (Key × PyData)} {kvs xs : List (Key × V)}, RepK K L H l kvs → RepK K L H ds xs →
    RepK K L H (l.foldl (fun acc p => putKK acc p.1 p.2) ds) (mergeK xs kvs)
  | _, _, _, _, .nil, h => h
  | _, _, _, _, .cons (k := kk) r t, h => by
    have z := RepK.merge t (h.put kk r)
    exact z
theorem blt_ok (hc : X.calm = true) (b : Bt) : CallR X (btV b) (rBlt X.K b) := by
  intro pins s σ H xs us Q I rs h
  obtain ⟨L, p, x, o, lv, rfl, hp, e, k⟩ := h
  unfold bltop at e
  split at e
  · cases e
    obtain ⟨a, xs, rfl, z, e1, q1⟩ := hp.lst
    refine call_len_seq pins s σ H _ us Q I rs ⟨_, _, rfl, .inl (.of e1), ?_⟩
    rw [← q1.length]
    exact k _ _ ⟨.inl rfl, .int _⟩
  · cases e
    obtain ⟨a, xs, rfl, z, e1, q1⟩ := hp.tup
    refine call_len_seq pins s σ H _ us Q I rs ⟨_, _, rfl, .inr e1, ?_⟩
    rw [← q1.length]
    exact k _ _ ⟨.inl rfl, .int _⟩
  · cases hp.str
    split at e
    · rename_i c
      cases e
      exact call_len_str pins s σ H _ us Q I rs ⟨_, rfl, c, k _ _ ⟨.inl rfl, .int _⟩⟩
    · cases e
  · cases e
    obtain ⟨a, xs, rfl, z, e1, q1⟩ := hp.lst
    exact call_tuple_of pins s σ H _ us Q I rs ⟨_, _, rfl, .inl ⟨.of e1, fun l hl => k _ _ ⟨.new hl, .newTup lv q1 z hl⟩⟩⟩
  · cases e
    obtain ⟨a, xs, rfl, z, e1, q1⟩ := hp.tup
    exact call_tuple_of pins s σ H _ us Q I rs ⟨_, _, rfl, .inr ⟨e1, k _ _ ⟨.inl rfl, .tup z e1 q1⟩⟩⟩
  · cases e
    obtain ⟨a, xs, rfl, z, e1, q1⟩ := hp.lst
    exact call_list_of pins s σ H _ us Q I rs ⟨_, _, rfl, .inl (.of e1), fun l hl => k _ _ ⟨l, _, rfl, hl, rfl, z, q1⟩⟩
  · cases e
    obtain ⟨a, xs, rfl, z, e1, q1⟩ := hp.tup
    exact call_list_of pins s σ H _ us Q I rs ⟨_, _, rfl, .inr e1, fun l hl => k _ _ ⟨l, _, rfl, hl, rfl, z, q1⟩⟩
  · cases hp.int
    split at e
    · rename_i c
      cases e
      exact call_str_int pins s σ H _ us Q I rs ⟨_, rfl, c, k _ _ ⟨.inl rfl, .str _⟩⟩
    · cases e
  · cases hp.str
    cases e
    exact SkE.call_str_str pins s σ H _ us Q I rs ⟨_, rfl, k _ _ ⟨.inl rfl, .str _⟩⟩
  · cases hp.int
    cases e
    exact call_int1 pins s σ H _ us Q I rs (.inl ⟨_, rfl, k _ _ ⟨.inl rfl, .int _⟩⟩)
  · cases hp.bool
    cases e
    exact call_int1 pins s σ H _ us Q I rs (.inr ⟨_, rfl, k _ _ ⟨.inl rfl, .int _⟩⟩)
  · obtain ⟨a, xs, rfl, z, e1, q1⟩ := hp.lst
    obtain ⟨ns, e2, rfl⟩ := Option.map_eq_some_iff.mp e
    cases intsOf_inv q1 e2
    exact cr_sum hc pins s σ H _ us Q I rs ⟨_, _, rfl, .of e1, k _ _ ⟨.inl rfl, .int _⟩⟩
  · obtain ⟨a, xs, rfl, z, e1, q1⟩ := hp.lst
    obtain ⟨ns, e2, rfl⟩ := Option.map_eq_some_iff.mp e
    cases boolsOf_inv q1 e2
    exact cr_all hc pins s σ H _ us Q I rs ⟨_, _, rfl, .of e1, k _ _ ⟨.inl rfl, .bl _⟩⟩
  · obtain ⟨a, xs, rfl, z, e1, q1⟩ := hp.lst
    obtain ⟨ns, e2, rfl⟩ := Option.map_eq_some_iff.mp e
    cases boolsOf_inv q1 e2
    exact cr_any hc pins s σ H _ us Q I rs ⟨_, _, rfl, .of e1, k _ _ ⟨.inl rfl, .bl _⟩⟩
  · obtain ⟨a, kvs, ks, rfl, rfl, e1, q1⟩ := hp.dct
    rw [unK_reK] at e
    cases e
    exact call_dictD pins s σ H _ us Q I rs ⟨_, _, rfl, .inl e1, fun l hl => k _ _ ⟨l, _, rfl, hl, rfl, q1⟩⟩
  · obtain ⟨a, xs, rfl, z, e1, q1⟩ := hp.lst
    obtain ⟨l, e2, rfl⟩ := Option.map_eq_some_iff.mp e
    obtain ⟨ps, kvs, rfl, h1, h2⟩ := pairsOf_inv q1 e2
    exact call_dictP hc pins s σ H _ us Q I rs ⟨_, _, _, rfl, .of e1, h1, fun q hq => k _ _ ⟨q, _, rfl, hq, rfl, RepK.merge h2 .nil⟩⟩
  · cases e
/-! ### isinstance -/
def tyN : Ty → String
  | .tuple => "tuple"
  | .list => "list"
  | .str => "str"
  | .int => "int"
  | .bool => "bool"
def rIsiM (K : PySem.W.Frag) (t : Ty) : List V → Hp → VK → Prop := fun xs H Q => ∃ L p x b, xs = [x, .ty (tyN t)] ∧ Now K L H p x ∧ isiop p t = some b ∧ Q (.bl b) H
theorem tyX_of {K : PySem.W.Frag} {L : Addr → Prop} {H : Hp} {p : PyData} {x : V} (hp : Now K L H p x) {t : Ty} {b : Bool} (e : isiop p t = some b) : ∃ n, TyX K H x (.type n) ∧ PySem.W.kitOne K (.type n) (.type (tyN t)) = some b := by
  cases p with
  | none => cases hp.none; cases e; exact ⟨"NoneType", .base .non, by cases t <;> exact kit_ty (by decide +kernel)⟩
  | bool c => cases hp.bool; exact ⟨"bool", .base (.bl _), by cases t <;> (cases e; exact kit_ty (by decide +kernel))⟩
  | int c => cases hp.int; exact ⟨"int", .base (.int _), by cases t <;> (cases e; exact kit_ty (by decide +kernel))⟩
  | str c => cases hp.str; exact ⟨"str", .base (.str _), by cases t <;> (cases e; exact kit_ty (by decide +kernel))⟩
  | tuple ds =>
    obtain ⟨a, xs, rfl, z, e1, q1⟩ := hp.tup
    refine ⟨"tuple", ?_, by cases t <;> (cases e; exact kit_ty (by decide +kernel))⟩
    rcases e1 with (e1 | ⟨o, e1⟩) | ⟨o, its, n, e1, e2, _⟩
    · exact .base (.tup e1)
    · exact .fTuple e1
    · exact .kTuple e1 e2
  | list ds =>
    obtain ⟨a, xs, rfl, z, e1, q1⟩ := hp.lst
    exact ⟨"list", .base (.lst e1), by cases t <;> (cases e; exact kit_ty (by decide +kernel))⟩
  | dict l => cases e
theorem isi_ok (t : Ty) : CallR X (.builtin "isinstance") (rIsiM X.K t) := by
  intro pins s σ H xs us Q I rs h
  obtain ⟨L, p, x, b, rfl, hp, e, k⟩ := h
  obtain ⟨n, h1, h2⟩ := tyX_of hp e
  exact call_isi pins s σ H _ us Q I rs ⟨_, _, _, _, _, rfl, .ty _, h1, h2, k⟩
end
end Mp
-- Mp7
set_option Elab.async false
set_option linter.all false
set_option maxRecDepth 100000
set_option maxHeartbeats 1000000
namespace Mp
open PySem PySem.Spec PyProof.Rows L2

/-! ### methods -/
section
variable {X : Cx}
def rMth (K : PySem.W.Frag) (t : Mt) : V → List V → Hp → VK → Prop := fun x xs H Q => ∃ L p ds d, LvOk H L ∧ Now K L H p x ∧ RepL K L H ds xs ∧ mthop t p ds = some d ∧ ∀ z, Rep K L H d z → Q z H
theorem findIdx_some {α : Type} {f : α → Bool} {l : List α} {j : Nat} (h : l.findIdx? f = some j) : ∃ a, l[j]? = some a ∧ f a = true ∧ ∀ m b, m < j → l[m]? = some b → f b = false := by
  rw [List.findIdx?_eq_some_iff_getElem] at h
  obtain ⟨h1, h2, h3⟩ := h
  refine ⟨l[j], by simp [h1], h2, fun m b hm e => ?_⟩
  obtain ⟨hl, rfl⟩ := List.getElem?_eq_some_iff.mp e
  have := h3 m hm
  simpa using this
theorem get_ok (hu : X.A.units + 1 < cLine) : MtR X "dict.get" (fun x xs H Q => (∃ a, x = .ref a ∧ ∃ kvs, H a = some (.dK kvs)) ∧ rMth X.K .get x xs H Q) := by
  intro pins s σ H x xs v us Q I rx rs h
  obtain ⟨_, L, p, ds, d, lv, hp, hd, e, k⟩ := h
  have e : getop p ds = some d := e
  unfold getop at e
  split at e
  · obtain ⟨a, kvs, ks, rfl, rfl, e1, q1⟩ := hp.dct
    split at e
    · rename_i kk l c1 c2
      rw [unK_reK] at c2
      cases c2
      cases e
      cases hd with
      | cons r1 hd => cases hd with
        | cons r2 hd =>
          cases hd
          obtain ⟨w1, w2, rfl, y1, y2⟩ := vals2 rs
          cases kD_rep r1 c1
          cases rx
          have hl := q1.look kk
          refine d_get2 hu I (.k e1) y1 y2 fun w' s' I' r' => ⟨_, H, I', r', k _ ?_⟩
          cases hk : lookK kvs kk with
          | none =>
            rw [hk] at hl
            rw [hl]
            exact r2
          | some z =>
            rw [hk] at hl
            obtain ⟨y, h1, h2⟩ := hl
            rw [h1]
            exact h2
    · cases e
  · cases e
theorem index_ok : MtR X "list.index" (rMth X.K .index) := by
  intro pins s σ H x xs v us Q I rx rs h
  obtain ⟨L, p, ds, d, lv, hp, hd, e, k⟩ := h
  have e : indexop p ds = some d := e
  unfold indexop at e
  split at e
  · obtain ⟨a, ys, rfl, z, e1, q1⟩ := hp.lst
    split at e
    · rename_i c
      rw [Bool.and_eq_true] at c
      obtain ⟨j, e2, rfl⟩ := Option.map_eq_some_iff.mp e
      cases hd with
      | cons r1 hd =>
        cases hd
        obtain ⟨w, h1, h2, h3⟩ := findIdx_some e2
        obtain ⟨y, h4, h5⟩ := q1.get h1
        have fw : flatD w = true := List.all_eq_true.mp c.2 w (List.mem_of_getElem? h1)
        refine mt_index pins s σ H _ _ v us Q I rx rs ⟨_, _, _, j, y, rfl, rfl, .of e1, flat_of r1 c.1, flats_of q1 c.2, h4, by rw [eqV_of h5 r1 fw c.1]; exact h2, fun m z' hm hz => ?_, k _ (.int _)⟩
        have hlt : m < ys.length := (List.getElem?_eq_some_iff.mp hz).1
        rw [← q1.length] at hlt
        obtain ⟨y', h6, h7⟩ := q1.get (i := m) (List.getElem?_eq_getElem hlt)
        rw [hz] at h6
        cases h6
        have fm := List.all_eq_true.mp c.2 _ (List.mem_of_getElem? (List.getElem?_eq_getElem hlt))
        rw [eqV_of h7 r1 fm c.1]
        exact h3 m _ hm (List.getElem?_eq_getElem hlt)
    · cases e
  · cases e
theorem join_ok : MtR X "str.join" (fun x xs H Q => (∃ a, x = .str a) ∧ rMth X.K .join x xs H Q) := by
  intro pins s σ H x xs v us Q I rx rs h
  obtain ⟨_, L, p, ds, d, lv, hp, hd, e, k⟩ := h
  have e : joinop p ds = some d := e
  unfold joinop at e
  split at e
  · cases hp.str
    split at e
    · rename_i ys c1
      split at e
      · rename_i c2
        cases e
        cases hd with
        | cons r1 hd =>
          cases hd
          cases r1 with
          | lst z e1 _ q1 =>
            cases strsOf_inv q1 c1
            refine mt_join pins s σ H _ _ v us Q I rx rs ⟨_, _, _, rfl, rfl, .inl (.of e1), c2, ?_⟩
            rw [TL.join_eq]
            exact k _ (.str _)
      · cases e
    · cases e
  · cases e
theorem find_ok : MtR X "str.find" (fun x xs H Q => (∃ a, x = .str a) ∧ rMth X.K .find x xs H Q) := by
  intro pins s σ H x xs v us Q I rx rs h
  obtain ⟨_, L, p, ds, d, lv, hp, hd, e, k⟩ := h
  have e : findop p ds = some d := e
  unfold findop at e
  split at e
  · cases hp.str
    cases e
    cases hd with
    | cons r1 hd =>
      cases hd
      cases r1
      exact mt_find pins s σ H _ _ v us Q I rx rs ⟨_, _, rfl, rfl, k _ (.int _)⟩
  · cases e
end
end Mp
-- Mp8
set_option Elab.async false
set_option linter.all false
set_option maxRecDepth 100000
set_option maxHeartbeats 2000000
namespace Mp
open PySem PySem.Spec PyProof.Rows L2

/-! ## the check of a text against the syntax -/
structure Kx where
  T : Str → Option Fn
  Pr : Str → Bool
  Fr : Str → Bool
def vis (sc : Scope) (x : Str) : Bool := match sc.names.lookup x with
  | some .local => true
  | some .cell => true
  | some .free => true
  | _ => false
def okN (x : Str) : Bool := !(x == "__debug__") && !(x == "__classdict__") && !decide (x = "__name__")
def glb (sc : Scope) (x : Str) : Bool := (match sc.names.lookup x with
  | some .globalImplicit => true
  | _ => false) && okN x
def nostar : Expr → Bool
  | .Starred .. => false
  | _ => true
def noSet : Expr → Bool
  | .Set .. => false
  | _ => true
def noSl : Expr → Bool
  | .Slice .. => false
  | _ => true
/-- no call without arguments (an attribute's base) -/
def noC0 : Expr → Bool
  | .Call _ [] _ _ => false
  | _ => true
def cstB : Ct → Const → Bool
  | .non, .none => true
  | .bl b, .bool c => b == c
  | .int i, .int j => decide (i = j)
  | .str x, .str y => decide (x = y)
  | _, _ => false
def bopB : Bo → Operator → Bool
  | .add, .Add => true
  | .sub, .Sub => true
  | .mul, .Mult => true
  | .fdiv, .FloorDiv => true
  | .mod, .Mod => true
  | .pow, .Pow => true
  | _, _ => false
def copB : Co → CmpOp → Bool
  | .eq, .Eq => true
  | .ne, .NotEq => true
  | .lt, .Lt => true
  | .le, .LtE => true
  | .gt, .Gt => true
  | .ge, .GtE => true
  | .is, .Is => true
  | .isn, .IsNot => true
  | .inn, .In => true
  | .nin, .NotIn => true
  | _, _ => false
def btN : Bt → Str
  | .len => "len"
  | .tuple => "tuple"
  | .list => "list"
  | .str => "str"
  | .int => "int"
  | .sum => "sum"
  | .all => "all"
  | .any => "any"
  | .dict => "dict"
def mtN : Mt → Str
  | .get => "get"
  | .index => "index"
  | .join => "join"
  | .find => "find"
def mtA : Mt → Nat
  | .get => 2
  | _ => 1
def keysB : List Str → List (Option Expr) → Bool
  | [], [] => true
  | k :: ks, some (.Constant (.str x) _ _) :: es => decide (x = k) && keysB ks es
  | _, _ => false
def Exs.len : Exs → Nat
  | .nil => 0
  | .cons _ es => es.len + 1
/-- may stand as a test -/
def tst : Ex → Bool
  | .ite .. => false
  | _ => true
def tgB (N : List Str) : Tg → Expr → List (Str × Nat) → Bool
  | .v i, .Name x _, own => decide (N[i]? = some x) && decide (own = [(x, i)])
  | .t is, .Tuple es _ _, own => decide (own.map (·.2) = is) && decide (es.length = is.length) && namesB N is es own
  | _, _, _ => false
where
  namesB (N : List Str) : List Nat → List Expr → List (Str × Nat) → Bool
  | [], [], [] => true
  | i :: is, .Name x _ :: es, (y, j) :: own => decide (N[i]? = some x) && decide (y = x) && decide (j = i) && namesB N is es own
  | _, _, _ => false
/-- the names of a target, by slots -/
def ownOf (N : List Str) : Tg → List (Str × Nat)
  | .v i => [((N[i]?).getD "", i)]
  | .t is => is.map fun i => ((N[i]?).getD "", i)
def lcB (sc : Scope) (scope : Scope) (own : List (Str × Nat)) : Bool := own.all fun p => match scope.names.lookup p.1 with
  | some .local => true
  | some .cell => true
  | _ => false
variable (k : Kx) (N : List Str)
mutual
def chkE : Ex → Scope → Expr → Bool
  | .var i, sc, .Name x _ => decide (N[i]? = some x) && vis sc x && okN x
  | .cst c, _, .Constant v _ _ => cstB c v
  | .bin o a b, sc, .BinOp x op y _ => bopB o op && chkE a sc x && chkE b sc y
  | .neg a, sc, .UnaryOp .USub x _ => chkE a sc x
  | .not a, sc, .UnaryOp .Not x _ => tst a && chkE a sc x
  | .cmp o a b, sc, .Compare x [op] [y] _ => copB o op && noSet y && chkE a sc x && chkE b sc y
  | .chn o o' a b c, sc, .Compare x [op, op'] [y, z] _ => copB o op && copB o' op' && noSet z && chkE a sc x && chkE b sc y && chkE c sc z
  | .and es, sc, .BoolOp .And xs _ => chkA es sc xs
  | .or es, sc, .BoolOp .Or xs _ => chkA es sc xs
  | .ite c a b, sc, .IfExp x y z _ => tst c && chkE c sc x && chkE a sc y && chkE b sc z
  | .tup es, sc, .Tuple xs _ _ => decide (xs.length ≤ 1000) && chkL es sc xs
  | .lst _ es, sc, .List xs _ => decide (xs.length ≤ 1000) && chkL es sc xs
  | .dic [] .nil, _, .Dict [] [] _ => true
  | .dic (k1 :: ks) es, sc, .Dict (key :: keys) vals _ => decide ((key :: keys).length ≤ 15) && decide ((key :: keys).length = vals.length) && decide ((k1 :: ks).Nodup) && keysB (k1 :: ks) (key :: keys) && chkL es sc vals
  | .idx a b, sc, .Subscript x y _ => noSl y && chkE a sc x && chkE b sc y
  | .slf a lo, sc, .Subscript x (.Slice (some l) none none _) _ => chkE a sc x && chkE lo sc l
  | .slt a hi, sc, .Subscript x (.Slice none (some h) none _) _ => chkE a sc x && chkE hi sc h
  | .sl2 a lo hi, sc, .Subscript x (.Slice (some l) (some h) none _) _ => chkE a sc x && chkE lo sc l && chkE hi sc h
  | .call f es, sc, .Call (.Name g _) xs [] _ => (match k.T f with
    | some fn => decide (fn.py = g) && decide (xs.length = fn.np)
    | none => false) && k.Pr f && glb sc g && chkL es sc xs
  | .isi a t, sc, .Call (.Name g _) [x, .Name y _] [] _ => decide (g = "isinstance") && glb sc g && k.Fr g && decide (y = Str.ofString (tyN t)) && glb sc y && k.Fr y && nostar x && chkE a sc x
  | .blt _ b a, sc, .Call (.Name g _) [x] [] _ => decide (g = btN b) && glb sc g && k.Fr g && nostar x && chkE a sc x
  | .mth t o es, sc, .Call (.Attribute x g apos) xs [] cpos => decide (g = mtN t) && noC0 x && (apos.endLine == cpos.line) && decide (xs.length = mtA t) && chkE o sc x && chkL es sc xs
  | .lc _ e tg it, sc, .ListComp x [⟨t, i, [], a⟩] scope _ => decide (a = 0) && tgB N tg t (ownOf N tg) && lcB sc scope (ownOf N tg) && blkC N sc scope (ownOf N tg) && chkI it sc i && chkE e (relS scope sc) x
  | .lci _ e tg it c, sc, .ListComp x [⟨t, i, [y], a⟩] scope _ => decide (a = 0) && tgB N tg t (ownOf N tg) && lcB sc scope (ownOf N tg) && blkC N sc scope (ownOf N tg) && chkI it sc i && tst c && chkE c (relS scope sc) y && chkE e (relS scope sc) x
  | .lcv e tg i, sc, .ListComp x [⟨t, .Name y _, [], a⟩] scope _ => decide (a = 0) && tgB N tg t (ownOf N tg) && lcB sc scope (ownOf N tg) && blkC N sc scope (ownOf N tg) && (decide (N[i]? = some y) && vis sc y && okN y) && chkE e (relS scope sc) x
  | _, _, _ => false
def chkL : Exs → Scope → List Expr → Bool
  | .nil, _, [] => true
  | .cons e es, sc, x :: xs => nostar x && chkE e sc x && chkL es sc xs
  | _, _, _ => false
def chkA : Exs → Scope → List Expr → Bool
  | .cons e .nil, sc, [x] => tst e && chkE e sc x
  | .cons e es, sc, x :: xs => tst e && chkE e sc x && chkA es sc xs
  | _, _, _ => false
def chkI : It → Scope → Expr → Bool
  | .rng a, sc, .Call (.Name g _) [x] [] _ => decide (g = "range") && glb sc g && k.Fr g && nostar x && chkE a sc x
  | .rng2 a b, sc, .Call (.Name g _) [x, y] [] _ => decide (g = "range") && glb sc g && k.Fr g && nostar x && nostar y && chkE a sc x && chkE b sc y
  | .e a, sc, x => noSet x && chkE a sc x
  | _, _, _ => false
end

/-! ## readings -/
def Post {α : Type} (PX : Str → List PyData → Mem → Prop) : R α → (α → Mem → Prop) → Prop
  | .ok a m, q => q a m
  | .ex c fs m, _ => PX c fs m
  | .no, _ => False
theorem Post.bind {α β : Type} {PX : Str → List PyData → Mem → Prop} {r : R α} {f : α → Mem → R β} {q : β → Mem → Prop} (h : Post PX (r.bind f) q) : Post PX r fun a m => Post PX (f a m) q := by
  cases r <;> exact h
theorem Post.mono {α : Type} {PX : Str → List PyData → Mem → Prop} {r : R α} {q q' : α → Mem → Prop} (h : Post PX r q) (g : ∀ a m, q a m → q' a m) : Post PX r q' := by
  cases r with
  | ok a m => exact g _ _ h
  | ex c fs m => exact h
  | no => exact h
/-- what is wished of exceptions (none yet) -/
def VX (PX : Str → List PyData → Mem → Prop) : Prop := ∀ c fs m, ¬ PX c fs m
def RepEn (K : PySem.W.Frag) (H : Hp) (m : List Addr) (u : Mem) (r : En) (σ : L2.St) : Prop := r.length = σ.length ∧ ∀ (i : Nat) (v : Vl), r[i]? = some (some v) → ∃ x, σ[i]? = some (some x) ∧ RepV K H m u v x
structure Cfg (K : PySem.W.Frag) (σ : L2.St) (H : Hp) (m : List Addr) (u : Mem) (r : En) (PX : Str → List PyData → Mem → Prop) : Prop where
  w : World K H m u
  en : RepEn K H m u r σ
  vx : VX PX
section
variable {K : PySem.W.Frag} {σ : L2.St} {H H' : Hp} {m m' : List Addr} {u u' : Mem} {r : En} {PX : Str → List PyData → Mem → Prop}
theorem RepEn.go (W : World K H m u) (g : Goes H m u H' m' u') (e : RepEn K H m u r σ) : RepEn K H' m' u' r σ := ⟨e.1, fun i v h => let ⟨x, h1, h2⟩ := e.2 i v h; ⟨x, h1, h2.go W g⟩⟩
theorem Cfg.go (C : Cfg K σ H m u r PX) (W' : World K H' m' u') (g : Goes H m u H' m' u') : Cfg K σ H' m' u' r PX := ⟨W', C.en.go C.w g, C.vx⟩
/-- what stands behind an expression -/
abbrev Beh (K : PySem.W.Frag) (H : Hp) (m : List Addr) (u : Mem) (Q : VK) : Vl → Mem → Prop := fun v u' => ∀ (m' : List Addr) (H' : Hp) (x : V), World K H' m' u' → Goes H m u H' m' u' → RepV K H' m' u' v x → Q x H'
theorem Beh.later (g : Goes H m u H' m' u') {Q : VK} {v : Vl} {u2 : Mem} (h : Beh K H m u Q v u2) : Beh K H' m' u' Q v u2 := fun m3 H3 x W G r => h m3 H3 x W (g.trans G) r
end
variable (F : Fs) (K : PySem.W.Frag)
def tE (e : Ex) : TE := fun σ H Q => ∃ m u r PX, Cfg K σ H m u r PX ∧ Post PX (evE F e r u) (Beh K H m u Q)
def tL (es : Exs) : TA := fun σ H Q => ∃ m u r PX, Cfg K σ H m u r PX ∧ Post PX (evL F es r u) fun vs u' => ∀ (m' : List Addr) (H' : Hp) (xs : List V), World K H' m' u' → Goes H m u H' m' u' → Paired (RepV K H' m' u') vs xs → xs.length = es.len → Q xs H'
def tT (e : Ex) : TT := fun σ H Q => ∃ m u r PX, Cfg K σ H m u r PX ∧ Post PX (evT F e r u) fun b u' => ∀ (m' : List Addr) (H' : Hp), World K H' m' u' → Goes H m u H' m' u' → Q b H'
def tAn (es : Exs) : TE := fun σ H Q => ∃ m u r PX, Cfg K σ H m u r PX ∧ Post PX (evAnd F es r u) (Beh K H m u Q)
def tOr' (es : Exs) : TE := fun σ H Q => ∃ m u r PX, Cfg K σ H m u r PX ∧ Post PX (evOr F es r u) (Beh K H m u Q)
def tAnT (es : Exs) : TT := fun σ H Q => ∃ m u r PX, Cfg K σ H m u r PX ∧ Post PX ((evAnd F es r u).bind asB) fun b u' => ∀ (m' : List Addr) (H' : Hp), World K H' m' u' → Goes H m u H' m' u' → Q b H'
def tOrT (es : Exs) : TT := fun σ H Q => ∃ m u r PX, Cfg K σ H m u r PX ∧ Post PX ((evOr F es r u).bind asB) fun b u' => ∀ (m' : List Addr) (H' : Hp), World K H' m' u' → Goes H m u H' m' u' → Q b H'
/-- what a def of the text promises -/
def spF (T : Str → Option Fn) (n : Nat) (f : Str) : Sp := fun vs H Q _ => ∃ m u args PX, VX PX ∧ World K H m u ∧ Paired (RepV K H m u) args vs ∧ Post PX (callN T n f args u) (Beh K H m u Q)
structure Cn (k : Kx) (N : List Str) (n : Nat) (sc : Scope) (X : Cx) : Prop where
  hN : X.N = N
  nd : N.Nodup
  hsc : X.env.scope = sc
  calm : X.calm = true
  room : Room n X.A
  free : ∀ x, k.Fr x = true → X.mg x = none
  fns : ∀ f fn, k.T f = some fn → k.Pr f = true → ∃ a fd ps, FnOk X.prog X.w X.K X.mg X.base CX0 n a fd ps (spF X.K k.T n f) ∧ X.mg fn.py = some (.ref a) ∧ PySem.W.keepIn X.K (.ref a) = true ∧ Binds X.K fd ps []
end Mp
-- Mp9
set_option Elab.async false
set_option linter.all false
set_option maxRecDepth 100000
set_option maxHeartbeats 2000000
namespace Mp
open PySem PySem.Spec PyProof.Rows L2

theorem peI {X : Cx} {e : Expr} {t t' : TE} (h : PE X e t) (i : ∀ σ H Q, t' σ H Q → t σ H Q) : PE X e t' := ⟨fun pins s σ H Q I q => h.run pins s σ H Q I (i _ _ _ q)⟩
theorem ptI {X : Cx} {e : Expr} {t t' : TT} (h : PT X e t) (i : ∀ σ H Q, t' σ H Q → t σ H Q) : PT X e t' := ⟨fun pins s σ H Q I q => h.run pins s σ H Q I (i _ _ _ q)⟩
theorem pwI {X : Cx} {e : Expr} {t t' : TT} (h : PW X e t) (i : ∀ σ H Q, t' σ H Q → t σ H Q) : PW X e t' := ⟨fun wh pins s σ H Q I q => h.run wh pins s σ H Q I (i _ _ _ q)⟩
theorem paI {X : Cx} {e : List Expr} {t t' : TA} (h : PA X e t) (i : ∀ σ H Q, t' σ H Q → t σ H Q) : PA X e t' := ⟨fun pos pins s σ H Q I q => h.run pos pins s σ H Q I (i _ _ _ q)⟩
theorem peOr {X : Cx} {e : Expr} {t t' : TE} (h : PE X e t) (h' : PE X e t') : PE X e (fun σ H Q => t σ H Q ∨ t' σ H Q) := ⟨fun pins s σ H Q I q => q.elim (h.run pins s σ H Q I) (h'.run pins s σ H Q I)⟩
theorem piOr {X : Cx} {tg e : Expr} {t t' : TI} (h : PI X tg e t) (h' : PI X tg e t') : PI X tg e (fun σ H R => t σ H R ∨ t' σ H R) := ⟨fun pins s σ H R I q => q.elim (h.run pins s σ H R I) (h'.run pins s σ H R I)⟩
theorem piI {X : Cx} {tg e : Expr} {t t' : TI} (h : PI X tg e t) (i : ∀ σ H R, t' σ H R → t σ H R) : PI X tg e t' := ⟨fun pins s σ H R I q => h.run pins s σ H R I (i _ _ _ q)⟩

/-! ### the syntax's side conditions -/
theorem star_cons {e : Expr} {es : List Expr} {env : Env} (h : nostar e = true) : starEach (e :: es) env = (false, eval e env) :: starEach es env := by
  cases e <;> first | rfl | cases h
theorem star_any {pos : Pos} {env : Env} : ∀ {es : List Expr}, es.all nostar = true → (backTo pos (starEach es env)).any (·.1) = false
  | [], _ => rfl
  | e :: es, h => by
    rw [List.all_cons, Bool.and_eq_true] at h
    rw [star_cons h.1]
    have ih := star_any (pos := pos) (env := env) h.2
    show (false || (backTo pos (starEach es env)).any (·.1)) = false
    rw [ih]; rfl
theorem star_few {pos : Pos} {env : Env} : ∀ {es : List Expr}, es.all nostar = true → (backTo pos (starEach es env)).all (fun x => !x.1) = true
  | [], _ => rfl
  | e :: es, h => by
    rw [List.all_cons, Bool.and_eq_true] at h
    rw [star_cons h.1]
    have ih := star_few (pos := pos) (env := env) h.2
    show (true && (backTo pos (starEach es env)).all (fun x => !x.1)) = true
    rw [ih]; rfl
theorem behind_set {op : CmpOp} {e : Expr} (h : noSet e = true) : behindInMarks op e = false := by
  cases e <;> first | rfl | cases h
theorem folded_set {e : Expr} {env : Env} (h : noSet e = true) : ∀ x, foldedSetIterable e env x = pure x := by
  intro x
  cases e <;> first | rfl | cases h
theorem plain_ix {e : Expr} (h : noSl e = true) : PlainIx e := by
  intro o i
  cases e <;> first | rfl | cases h
theorem attr_base {o : Expr} {m : Str} {env : Env} (h : noC0 o = true) : attributeBase o m env (eval o env) = eval o env := by
  cases o with
  | Call f args kws pos =>
    cases args with
    | nil => cases h
    | cons a as => unfold attributeBase; cases f <;> rfl
  | _ => rfl
theorem okN_d {x : Str} (h : okN x = true) : (x == ("__debug__" : Str)) = false ∧ (x == ("__classdict__" : Str)) = false ∧ x ≠ "__name__" := by
  simp only [okN, Bool.and_eq_true, Bool.not_eq_true', decide_eq_false_iff_not] at h
  exact ⟨h.1.1, h.1.2, h.2⟩
theorem vis_of {sc : Scope} {x : Str} (h : vis sc x = true) : Vis sc x := by
  unfold vis at h
  split at h
  · rename_i e; exact .inl e
  · rename_i e; exact .inr (.inl e)
  · rename_i e; exact .inr (.inr e)
  · cases h
theorem glb_of {sc : Scope} {x : Str} (h : glb sc x = true) : sc.names.lookup x = some .globalImplicit ∧ okN x = true := by
  unfold glb at h
  rw [Bool.and_eq_true] at h
  refine ⟨?_, h.2⟩
  have h1 := h.1
  split at h1
  · assumption
  · cases h1

section
variable {X : Cx} {F : Fs} {σ : L2.St} {H : Hp} {m : List Addr} {u : Mem} {r : En} {PX : Str → List PyData → Mem → Prop}
/-- one expression, then the rest -/
theorem one {K : PySem.W.Frag} {α : Type} {ea : Ex} {f : Vl → Mem → R α} {q : α → Mem → Prop} {P : VK} (C : Cfg K σ H m u r PX) (p : Post PX ((evE F ea r u).bind f) q)
    (h : ∀ v x u1 m1 H1, Cfg K σ H1 m1 u1 r PX → Goes H m u H1 m1 u1 → RepV K H1 m1 u1 v x → Post PX (f v u1) q → P x H1) : tE F K ea σ H P :=
  ⟨m, u, r, PX, C, p.bind.mono fun v u1 p1 m1 H1 x W1 G1 rx => h v x u1 m1 H1 (C.go W1 G1) G1 rx p1⟩
theorem two {K : PySem.W.Frag} {α : Type} {ea eb : Ex} {f : Vl → Vl → Mem → R α} {q : α → Mem → Prop} {P : V → V → Hp → Prop} (C : Cfg K σ H m u r PX) (p : Post PX ((evE F ea r u).bind fun x m1 => (evE F eb r m1).bind fun y m2 => f x y m2) q)
    (h : ∀ v w x y u2 m2 H2, Cfg K σ H2 m2 u2 r PX → Goes H m u H2 m2 u2 → RepV K H2 m2 u2 v x → RepV K H2 m2 u2 w y → Post PX (f v w u2) q → P x y H2) : tE F K ea σ H fun x H1 => tE F K eb σ H1 fun y H2 => P x y H2 :=
  one C p fun v x u1 m1 H1 C1 G1 rx p1 => one C1 p1 fun w y u2 m2 H2 C2 G2 ry p2 => h v w x y u2 m2 H2 C2 (G1.trans G2) (rx.go C1.w G2) ry p2
theorem oneL {K : PySem.W.Frag} {α : Type} {es : Exs} {f : List Vl → Mem → R α} {q : α → Mem → Prop} {P : List V → Hp → Prop} (C : Cfg K σ H m u r PX) (p : Post PX ((evL F es r u).bind f) q)
    (h : ∀ vs xs u1 m1 H1, Cfg K σ H1 m1 u1 r PX → Goes H m u H1 m1 u1 → Paired (RepV K H1 m1 u1) vs xs → xs.length = es.len → Post PX (f vs u1) q → P xs H1) : tL F K es σ H P :=
  ⟨m, u, r, PX, C, p.bind.mono fun vs u1 p1 m1 H1 xs W1 G1 rx hl => h vs xs u1 m1 H1 (C.go W1 G1) G1 rx hl p1⟩
theorem oneT {K : PySem.W.Frag} {α : Type} {ea : Ex} {f : Bool → Mem → R α} {q : α → Mem → Prop} {P : Bool → Hp → Prop} (C : Cfg K σ H m u r PX) (p : Post PX ((evT F ea r u).bind f) q)
    (h : ∀ b u1 m1 H1, Cfg K σ H1 m1 u1 r PX → Goes H m u H1 m1 u1 → Post PX (f b u1) q → P b H1) : tT F K ea σ H P :=
  ⟨m, u, r, PX, C, p.bind.mono fun b u1 p1 m1 H1 W1 G1 => h b u1 m1 H1 (C.go W1 G1) G1 p1⟩
theorem bind_assoc' {α β γ : Type} (a : R α) (f : α → Mem → R β) (g : β → Mem → R γ) : (a.bind f).bind g = a.bind fun x m => (f x m).bind g := by
  cases a <;> rfl
theorem pairs_go {K : PySem.W.Frag} {H H' : Hp} {m m' : List Addr} {u u' : Mem} (W : World K H m u) (g : Goes H m u H' m' u') {vs : List Vl} {xs : List V} (h : Paired (RepV K H m u) vs xs) : Paired (RepV K H' m' u') vs xs := Paired.mapP h fun _ _ r => r.go W g
/-- the end of an operation that may lay a new object -/
theorem fin_opt {K : PySem.W.Frag} {o : Option PyData} {Q : VK} (C : Cfg K σ H m u r PX) (p : Post PX (opt o u) (Beh K H m u Q)) : ∃ d, o = some d ∧ ∀ z H', Add H H' → Rep K (Live m u) H' d z → Q z H' := by
  cases o with
  | none => exact False.elim p
  | some d => exact ⟨d, rfl, fun z H' a rz => p m H' z (C.w.add a) (.add a) rz⟩
theorem fin_optL {K : PySem.W.Frag} {o : Option PyData} {Q : VK} {H0 : Hp} {m0 : List Addr} {u0 : Mem} (C : Cfg K σ H m u r PX) (G : Goes H0 m0 u0 H m u) (p : Post PX (opt o u) (Beh K H0 m0 u0 Q)) : ∃ d, o = some d ∧ ∀ z H', Add H H' → Rep K (Live m u) H' d z → Q z H' :=
  fin_opt C (p.mono fun _ _ b => b.later G)
theorem fin_b {K : PySem.W.Frag} {o : Option Bool} {Q : VK} {H0 : Hp} {m0 : List Addr} {u0 : Mem} (C : Cfg K σ H m u r PX) (G : Goes H0 m0 u0 H m u) (p : Post PX (opB o u) (Beh K H0 m0 u0 Q)) : ∃ b, o = some b ∧ Q (.bl b) H := by
  cases o with
  | none => exact False.elim p
  | some b => exact ⟨b, rfl, p m H _ C.w G (.bl b)⟩
theorem rd2_some {α : Type} {q : Vl → Mem → Prop} {v w : Vl} {f : PyData → PyData → R Vl} (p : Post PX (rd2 u v w f) q) : ∃ a b, rd u v = some a ∧ rd u w = some b ∧ Post PX (f a b) q := by
  unfold rd2 at p
  split at p
  · exact ⟨_, _, by assumption, by assumption, p⟩
  · exact False.elim p
theorem bopB_eq {o : Bo} {op : Operator} (h : bopB o op = true) : op = bopO o := by
  cases o <;> cases op <;> first | rfl | cases h
theorem copB_eq {o : Co} {op : CmpOp} (h : copB o op = true) : op = copO o := by
  cases o <;> cases op <;> first | rfl | cases h

/-! ### expressions -/
variable {a b c : Expr} {ea eb ec : Ex} {pos : Pos}
theorem se_var {i : Nat} {x : Str} (hN : X.N[i]? = some x) (hv : Vis X.env.scope x) (ho : okN x = true) : PE X (.Name x pos) (tE F X.K (.var i)) := by
  refine peI (pe_var hN hv (okN_d ho).1 (okN_d ho).2.1) fun σ H Q ⟨m, u, r, PX, C, p⟩ => ?_
  have p : Post PX (match r[i]? with | some (some v) => R.ok v u | _ => .no) (Beh X.K H m u Q) := p
  split at p
  · rename_i v e
    obtain ⟨y, h1, h2⟩ := C.en.2 i v e
    exact ⟨y, h1, p m H y C.w (Goes.refl _ _ _) h2⟩
  · exact False.elim p
theorem se_cst {ct : Ct} {v : Const} {j : Nat} (h : cstB ct v = true) : PE X (.Constant v j pos) (tE F X.K (.cst ct)) := by
  have go : ∀ {d : PyData} {x : V}, ct.v = d → (∀ L H, Rep X.K L H d x) → ∀ σ H Q, tE F X.K (.cst ct) σ H Q → Q x H := by
    intro d x e hr σ H Q ⟨m, u, r, PX, C, p⟩
    have p : Beh X.K H m u Q (.d ct.v) u := p
    rw [e] at p
    exact p m H x C.w (Goes.refl _ _ _) (hr _ _)
  cases ct with
  | non =>
    cases v <;> first | (cases h; done) | skip
    exact peI pe_non (go (x := .non) rfl fun _ _ => .non)
  | bl b0 =>
    cases v <;> first | (cases h; done) | skip
    rename_i b1
    have e : b0 = b1 := eq_of_beq h
    subst e
    exact peI pe_bl (go (x := .bl b0) rfl fun _ _ => .bl _)
  | int i0 =>
    cases v <;> first | (cases h; done) | skip
    rename_i b1
    have e : i0 = b1 := of_decide_eq_true h
    subst e
    exact peI pe_int (go (x := .int i0) rfl fun _ _ => .int _)
  | str i0 =>
    cases v <;> first | (cases h; done) | skip
    rename_i b1
    have e : i0 = b1 := of_decide_eq_true h
    subst e
    exact peI pe_str (go (x := .str i0) rfl fun _ _ => .str _)
theorem se_bin {o : Bo} (ha : PE X a (tE F X.K ea)) (hb : PE X b (tE F X.K eb)) : PE X (.BinOp a (bopO o) b pos) (tE F X.K (.bin o ea eb)) := by
  refine peI (pe_op (bin_ok o) ha hb) fun σ H Q ⟨m, u, r, PX, C, p⟩ => ?_
  refine two (f := fun x y m2 => rd2 m2 x y fun p q => opt (binop o p q) m2) C p fun v w x y u2 m2 H2 C2 G2 rx ry p2 => ?_
  obtain ⟨da, db, h1, h2, p3⟩ := rd2_some (α := Unit) p2
  obtain ⟨d, e, k⟩ := fin_optL C2 G2 p3
  exact ⟨_, da, db, d, C2.w.lv, rx.read C2.w h1, ry.read C2.w h2, e, k⟩
theorem se_neg (ha : PE X a (tE F X.K ea)) : PE X (.UnaryOp .USub a pos) (tE F X.K (.neg ea)) := by
  refine peI (pe_un neg_ok ha) fun σ H Q ⟨m, u, r, PX, C, p⟩ => ?_
  refine one (f := fun x m1 => match rd m1 x with | some p => opt (negop p) m1 | none => .no) C p fun v x u1 m1 H1 C1 G1 rx p1 => ?_
  split at p1
  · rename_i d e
    obtain ⟨d2, e2, k⟩ := fin_optL C1 G1 p1
    exact ⟨_, _, _, rx.read C1.w e, e2, fun z rz => k z _ (.inl rfl) rz⟩
  · exact False.elim p1
theorem se_cmp {o : Co} (hu : X.A.units + 64 < cLine) (ha : PE X a (tE F X.K ea)) (hb : PE X b (tE F X.K eb)) (hs : noSet b = true) : PE X (.Compare a [copO o] [b] pos) (tE F X.K (.cmp o ea eb)) := by
  refine peI (pe_cmpR (cmp_ok hu o) ha hb (behind_set hs)) fun σ H Q ⟨m, u, r, PX, C, p⟩ => ?_
  refine two (f := fun x y m2 => rd2 m2 x y fun p q => opB (cmpop o p q) m2) C p fun v w x y u2 m2 H2 C2 G2 rx ry p2 => ?_
  obtain ⟨da, db, h1, h2, p3⟩ := rd2_some (α := Unit) p2
  obtain ⟨d, e, k⟩ := fin_b C2 G2 p3
  exact ⟨_, da, db, d, rx.read C2.w h1, ry.read C2.w h2, e, k⟩
theorem st_cmp {o : Co} (hu : X.A.units + 64 < cLine) (ha : PE X a (tE F X.K ea)) (hb : PE X b (tE F X.K eb)) (hs : noSet b = true) : PT X (.Compare a [copO o] [b] pos) (tT F X.K (.cmp o ea eb)) := by
  refine ptI (pt_cmpR (cmp_ok hu o) ha hb (behind_set hs)) fun σ H Q ⟨m, u, r, PX, C, p⟩ => ?_
  have p : Post PX ((((evE F ea r u).bind fun x m1 => (evE F eb r m1).bind fun y m2 => rd2 m2 x y fun p q => opB (cmpop o p q) m2)).bind asB) _ := p
  rw [bind_assoc'] at p
  simp only [bind_assoc'] at p
  refine two (f := fun x y m2 => (rd2 m2 x y fun p q => opB (cmpop o p q) m2).bind asB) C p fun v w x y u2 m2 H2 C2 G2 rx ry p2 => ?_
  have p3 := Post.bind p2
  obtain ⟨da, db, h1, h2, p4⟩ := rd2_some (α := Unit) p3
  cases e : cmpop o da db with
  | none => rw [e] at p4; exact False.elim p4
  | some b =>
    rw [e] at p4
    exact ⟨_, da, db, b, rx.read C2.w h1, ry.read C2.w h2, e, b, rfl, p4 _ _ C2.w G2⟩
end
end Mp
-- Mp10
set_option Elab.async false
set_option linter.all false
set_option maxRecDepth 100000
set_option maxHeartbeats 2000000
namespace Mp
open PySem PySem.Spec PyProof.Rows L2
section
variable {X : Cx} {F : Fs} {σ : L2.St} {H : Hp} {m : List Addr} {u : Mem} {r : En} {PX : Str → List PyData → Mem → Prop}
variable {a b c : Expr} {ea eb ec : Ex} {pos : Pos}

theorem last_marks {op op' : CmpOp} {b c : Expr} (h : noSet c = true) : lastMarks [op, op'] [b, c] = false := by
  show behindInMarks op' c = false
  exact behind_set h
/-- a chain's reading -/
theorem chn_core {K : PySem.W.Frag} {o o' : Co} {P : Vl → Mem → Prop} {Q : VK} (C : Cfg K σ H m u r PX) (p : Post PX (evE F (.chn o o' ea eb ec) r u) P) (hq : ∀ b m' H' u', World K H' m' u' → Goes H m u H' m' u' → P (.d (.bool b)) u' → Q (.bl b) H') :
    tChain (rCmp K o) (rCmp K o') (tE F K ea) (tE F K eb) (tE F K ec) σ H Q := by
  refine two (f := fun x y m2 => match rd m2 x, rd m2 y with
      | some p, some q => match cmpop o p q with
        | some true => (evE F ec r m2).bind fun z m3 => rd2 m3 y z fun q s => opB (cmpop o' q s) m3
        | some false => R.ok (Vl.d (.bool false)) m2
        | none => .no
      | _, _ => .no) C p fun v w x y u2 m2 H2 C2 G2 rx ry p2 => ?_
  split at p2
  · rename_i da db h1 h2
    split at p2
    · rename_i e
      refine ⟨_, da, db, true, rx.read C2.w h1, ry.read C2.w h2, e, true, rfl, ?_⟩
      rw [if_pos rfl]
      refine one (f := fun z m3 => rd2 m3 w z fun q s => opB (cmpop o' q s) m3) C2 p2 fun v3 z u3 m3 H3 C3 G3 rz p3 => ?_
      obtain ⟨d1, d2, h3, h4, p4⟩ := rd2_some (α := Unit) p3
      cases e2 : cmpop o' d1 d2 with
      | none => rw [e2] at p4; exact False.elim p4
      | some b =>
        rw [e2] at p4
        exact ⟨_, d1, d2, b, (ry.go C2.w G3).read C3.w h3, rz.read C3.w h4, e2, hq b m3 H3 u3 C3.w (G2.trans G3) p4⟩
    · rename_i e
      refine ⟨_, da, db, false, rx.read C2.w h1, ry.read C2.w h2, e, false, rfl, ?_⟩
      rw [if_neg Bool.false_ne_true]
      exact hq false m2 H2 u2 C2.w G2 p2
    · exact False.elim p2
  · exact False.elim p2
theorem se_chn {o o' : Co} (hu : X.A.units + 64 < cLine) (ha : PE X a (tE F X.K ea)) (hb : PE X b (tE F X.K eb)) (hc : PE X c (tE F X.K ec)) (hs : noSet c = true) : PE X (.Compare a [copO o, copO o'] [b, c] pos) (tE F X.K (.chn o o' ea eb ec)) :=
  peI (pe_chain (cmp_ok hu o) (cmp_ok hu o') ha hb hc (last_marks hs)) fun σ H Q ⟨m, u, r, PX, C, p⟩ => chn_core C p fun b m' H' u' W G z => z m' H' _ W G (.bl b)
theorem st_chn {o o' : Co} (hu : X.A.units + 64 < cLine) (ha : PE X a (tE F X.K ea)) (hb : PE X b (tE F X.K eb)) (hc : PE X c (tE F X.K ec)) (hs : noSet c = true) : PT X (.Compare a [copO o, copO o'] [b, c] pos) (tT F X.K (.chn o o' ea eb ec)) :=
  ptI (pt_chain (cmp_ok hu o) (cmp_ok hu o') ha hb hc (last_marks hs)) fun σ H Q ⟨m, u, r, PX, C, p⟩ => chn_core C (Post.bind p) fun b m' H' u' W G z => ⟨b, rfl, z m' H' W G⟩
/-! ### tests -/
theorem asB_post {P : Bool → Mem → Prop} {v : Vl} (p : Post PX (asB v u) P) : ∃ b, v = .d (.bool b) ∧ P b u := by
  unfold asB at p
  split at p
  · exact ⟨_, rfl, p⟩
  · exact False.elim p
/-- an expression whose isTrue is plain -/
theorem st_val (ha : PE X a (tE F X.K ea)) (he : ∀ whole, isTrue a X.env whole = (do let v ← whole; standAt a.pos; holding [v] (truthy v))) : PT X a (tT F X.K ea) := by
  refine ptI (pt_val ha he) fun σ H Q ⟨m, u, r, PX, C, p⟩ => ?_
  refine one (P := fun x H1 => ∃ c, x = .bl c ∧ Q c H1) (f := asB) C p fun v x u1 m1 H1 C1 G1 rx p1 => ?_
  obtain ⟨b, rfl, p2⟩ := asB_post p1
  exact ⟨b, Rep.bool' rx, p2 _ _ C1.w G1⟩
theorem asB_bind {α : Type} {f : Bool → Mem → R α} {P : α → Mem → Prop} {v : Vl} (p : Post PX ((asB v u).bind f) P) : ∃ b, v = .d (.bool b) ∧ Post PX (f b u) P := by
  unfold asB at p
  split at p
  · exact ⟨_, rfl, p⟩
  · exact False.elim p
theorem se_not (ha : PE X a (tE F X.K ea)) : PE X (.UnaryOp .Not a pos) (tE F X.K (.not ea)) := by
  refine peI (pe_not ha) fun σ H Q ⟨m, u, r, PX, C, p⟩ => ?_
  refine one (P := fun x H1 => ∃ c, x = .bl c ∧ Q (.bl (!c)) H1) (f := fun x m1 => (asB x m1).bind fun b m2 => R.ok (Vl.d (.bool (!b))) m2) C p fun v x u1 m1 H1 C1 G1 rx p1 => ?_
  obtain ⟨b, rfl, p2⟩ := asB_bind p1
  exact ⟨b, Rep.bool' rx, p2 _ _ _ C1.w G1 (.bl _)⟩
theorem st_not (ha : PT X a (tT F X.K ea)) : PT X (.UnaryOp .Not a pos) (tT F X.K (.not ea)) := by
  refine ptI (pt_not ha) fun σ H Q ⟨m, u, r, PX, C, p⟩ => ?_
  have p : Post PX (((evE F ea r u).bind fun x m1 => (asB x m1).bind fun b m2 => R.ok (Vl.d (.bool (!b))) m2).bind asB) _ := p
  rw [bind_assoc'] at p
  simp only [bind_assoc', bind_ok] at p
  rw [← bind_assoc'] at p
  exact oneT (P := fun b H1 => Q (!b) H1) (f := fun b m2 => asB (Vl.d (.bool (!b))) m2) C p fun b u1 m1 H1 C1 G1 p1 => p1 _ _ C1.w G1
theorem se_ite (hc : PT X c (tT F X.K ec)) (ha : PE X a (tE F X.K ea)) (hb : PE X b (tE F X.K eb)) : PE X (.IfExp c a b pos) (tE F X.K (.ite ec ea eb)) := by
  refine peI (pe_ifExp hc ha hb) fun σ H Q ⟨m, u, r, PX, C, p⟩ => ?_
  have p : Post PX ((evE F ec r u).bind fun x m1 => (asB x m1).bind fun k m2 => match k with | true => evE F ea r m2 | false => evE F eb r m2) (Beh X.K H m u Q) := p
  rw [← bind_assoc'] at p
  refine oneT (P := fun c H1 => if c = true then tE F X.K ea σ H1 Q else tE F X.K eb σ H1 Q) (f := fun k m2 => match k with | true => evE F ea r m2 | false => evE F eb r m2) C p fun b u1 m1 H1 C1 G1 p1 => ?_
  cases b with
  | true =>
    rw [if_pos rfl]
    exact ⟨m1, u1, r, PX, C1, p1.mono fun _ _ z => z.later G1⟩
  | false =>
    rw [if_neg Bool.false_ne_true]
    exact ⟨m1, u1, r, PX, C1, p1.mono fun _ _ z => z.later G1⟩
/-- and, or as values -/
theorem se_one_and (ha : PE X a (tE F X.K ea)) : PE X (.BoolOp .And [a] pos) (tAn F X.K (.cons ea .nil)) := by
  refine peI (pe_one ha) fun σ H Q ⟨m, u, r, PX, C, p⟩ => ?_
  refine one (f := fun x m1 => (asB x m1).bind fun b m2 => R.ok (Vl.d (.bool b)) m2) C p fun v x u1 m1 H1 C1 G1 rx p1 => ?_
  obtain ⟨b, rfl, p2⟩ := asB_bind p1
  exact p2 _ _ _ C1.w G1 rx
theorem se_one_or (ha : PE X a (tE F X.K ea)) : PE X (.BoolOp .Or [a] pos) (tOr' F X.K (.cons ea .nil)) := by
  refine peI (pe_one ha) fun σ H Q ⟨m, u, r, PX, C, p⟩ => ?_
  refine one (f := fun x m1 => (asB x m1).bind fun b m2 => R.ok (Vl.d (.bool b)) m2) C p fun v x u1 m1 H1 C1 G1 rx p1 => ?_
  obtain ⟨b, rfl, p2⟩ := asB_bind p1
  exact p2 _ _ _ C1.w G1 rx
theorem se_and {e2 : Ex} {es : Exs} {xs : List Expr} (ha : PE X a (tE F X.K ea)) (hb : PE X (.BoolOp .And (b :: xs) pos) (tAn F X.K (.cons e2 es))) : PE X (.BoolOp .And (a :: b :: xs) pos) (tAn F X.K (.cons ea (.cons e2 es))) := by
  refine peI (pe_and ha hb) fun σ H Q ⟨m, u, r, PX, C, p⟩ => ?_
  refine one (P := fun x H1 => ∃ c, x = .bl c ∧ if c = true then tAn F X.K (.cons e2 es) σ H1 Q else Q (.bl false) H1) (f := fun x m1 => (asB x m1).bind fun b m2 => match b with | true => evAnd F (.cons e2 es) r m2 | false => R.ok (Vl.d (.bool false)) m2) C p fun v x u1 m1 H1 C1 G1 rx p1 => ?_
  obtain ⟨b, rfl, p2⟩ := asB_bind p1
  refine ⟨b, Rep.bool' rx, ?_⟩
  cases b with
  | true =>
    rw [if_pos rfl]
    exact ⟨m1, u1, r, PX, C1, p2.mono fun _ _ z => z.later G1⟩
  | false =>
    rw [if_neg Bool.false_ne_true]
    exact p2 _ _ _ C1.w G1 (.bl _)
theorem se_or {e2 : Ex} {es : Exs} {xs : List Expr} (ha : PE X a (tE F X.K ea)) (hb : PE X (.BoolOp .Or (b :: xs) pos) (tOr' F X.K (.cons e2 es))) : PE X (.BoolOp .Or (a :: b :: xs) pos) (tOr' F X.K (.cons ea (.cons e2 es))) := by
  refine peI (pe_or ha hb) fun σ H Q ⟨m, u, r, PX, C, p⟩ => ?_
  refine one (P := fun x H1 => ∃ c, x = .bl c ∧ if c = true then Q (.bl true) H1 else tOr' F X.K (.cons e2 es) σ H1 Q) (f := fun x m1 => (asB x m1).bind fun b m2 => match b with | true => R.ok (Vl.d (.bool true)) m2 | false => evOr F (.cons e2 es) r m2) C p fun v x u1 m1 H1 C1 G1 rx p1 => ?_
  obtain ⟨b, rfl, p2⟩ := asB_bind p1
  refine ⟨b, Rep.bool' rx, ?_⟩
  cases b with
  | true =>
    rw [if_pos rfl]
    exact p2 _ _ _ C1.w G1 (.bl _)
  | false =>
    rw [if_neg Bool.false_ne_true]
    exact ⟨m1, u1, r, PX, C1, p2.mono fun _ _ z => z.later G1⟩
/-- and, or as tests -/
theorem st_one_and (ha : PT X a (tT F X.K ea)) : PW X (.BoolOp .And [a] pos) (tAnT F X.K (.cons ea .nil)) := by
  refine pwI (pw_and1 ha) fun σ H Q ⟨m, u, r, PX, C, p⟩ => ?_
  have p : Post PX (((evE F ea r u).bind fun x m1 => (asB x m1).bind fun b m2 => R.ok (Vl.d (.bool b)) m2).bind asB) _ := p
  rw [bind_assoc'] at p
  simp only [bind_assoc', bind_ok] at p
  rw [← bind_assoc'] at p
  exact oneT (f := fun b m2 => asB (Vl.d (.bool b)) m2) C p fun b u1 m1 H1 C1 G1 p1 => p1 _ _ C1.w G1
theorem st_one_or (ha : PT X a (tT F X.K ea)) : PW X (.BoolOp .Or [a] pos) (tOrT F X.K (.cons ea .nil)) := by
  refine pwI (pw_or1 ha) fun σ H Q ⟨m, u, r, PX, C, p⟩ => ?_
  have p : Post PX (((evE F ea r u).bind fun x m1 => (asB x m1).bind fun b m2 => R.ok (Vl.d (.bool b)) m2).bind asB) _ := p
  rw [bind_assoc'] at p
  simp only [bind_assoc', bind_ok] at p
  rw [← bind_assoc'] at p
  exact oneT (f := fun b m2 => asB (Vl.d (.bool b)) m2) C p fun b u1 m1 H1 C1 G1 p1 => p1 _ _ C1.w G1
theorem st_and {e2 : Ex} {es : Exs} {xs : List Expr} (ha : PT X a (tT F X.K ea)) (hb : PW X (.BoolOp .And (b :: xs) pos) (tAnT F X.K (.cons e2 es))) : PW X (.BoolOp .And (a :: b :: xs) pos) (tAnT F X.K (.cons ea (.cons e2 es))) := by
  refine pwI (pw_and ha hb) fun σ H Q ⟨m, u, r, PX, C, p⟩ => ?_
  have p : Post PX (((evE F ea r u).bind fun x m1 => (asB x m1).bind fun b m2 => match b with | true => evAnd F (.cons e2 es) r m2 | false => R.ok (Vl.d (.bool false)) m2).bind asB) _ := p
  rw [bind_assoc'] at p
  simp only [bind_assoc'] at p
  rw [← bind_assoc'] at p
  refine oneT (P := fun c H1 => if c = true then tAnT F X.K (.cons e2 es) σ H1 Q else Q false H1) C p fun b u1 m1 H1 C1 G1 p1 => ?_
  cases b with
  | true =>
    rw [if_pos rfl]
    exact ⟨m1, u1, r, PX, C1, p1.mono fun _ _ z m2 H2 W2 G2 => z m2 H2 W2 (G1.trans G2)⟩
  | false =>
    rw [if_neg Bool.false_ne_true]
    exact p1 _ _ C1.w G1
theorem st_or {e2 : Ex} {es : Exs} {xs : List Expr} (ha : PT X a (tT F X.K ea)) (hb : PW X (.BoolOp .Or (b :: xs) pos) (tOrT F X.K (.cons e2 es))) : PW X (.BoolOp .Or (a :: b :: xs) pos) (tOrT F X.K (.cons ea (.cons e2 es))) := by
  refine pwI (pw_or ha hb) fun σ H Q ⟨m, u, r, PX, C, p⟩ => ?_
  have p : Post PX (((evE F ea r u).bind fun x m1 => (asB x m1).bind fun b m2 => match b with | true => R.ok (Vl.d (.bool true)) m2 | false => evOr F (.cons e2 es) r m2).bind asB) _ := p
  rw [bind_assoc'] at p
  simp only [bind_assoc'] at p
  rw [← bind_assoc'] at p
  refine oneT (P := fun c H1 => if c = true then Q true H1 else tOrT F X.K (.cons e2 es) σ H1 Q) C p fun b u1 m1 H1 C1 G1 p1 => ?_
  cases b with
  | true =>
    rw [if_pos rfl]
    exact p1 _ _ C1.w G1
  | false =>
    rw [if_neg Bool.false_ne_true]
    exact ⟨m1, u1, r, PX, C1, p1.mono fun _ _ z m2 H2 W2 G2 => z m2 H2 W2 (G1.trans G2)⟩
end
end Mp
-- Mp11
set_option Elab.async false
set_option linter.all false
set_option maxRecDepth 100000
set_option maxHeartbeats 2000000
namespace Mp
open PySem PySem.Spec PyProof.Rows L2
section
variable {X : Cx} {F : Fs} {σ : L2.St} {H : Hp} {m : List Addr} {u : Mem} {r : En} {PX : Str → List PyData → Mem → Prop}
variable {a b c : Expr} {ea eb ec : Ex} {pos : Pos} {es : Exs} {xs : List Expr}

/-! ### argument lists, displays -/
theorem sl_nil : PA X [] (tL F X.K .nil) := paI pa_nil fun σ H Q ⟨m, u, r, PX, C, p⟩ => by
  have p : ∀ (m' : List Addr) (H' : Hp) (xs : List V), World X.K H' m' u → Goes H m u H' m' u → Paired (RepV X.K H' m' u) [] xs → xs.length = 0 → Q xs H' := p
  exact p m H [] C.w (Goes.refl _ _ _) .nil rfl
theorem sl_cons (ha : PE X a (tE F X.K ea)) (hs : PA X xs (tL F X.K es)) (hn : nostar a = true) : PA X (a :: xs) (tL F X.K (.cons ea es)) := by
  refine paI (pa_cons ha hs (star_cons hn)) fun σ H Q ⟨m, u, r, PX, C, p⟩ => ?_
  refine one (P := fun x H1 => tL F X.K es σ H1 fun xs H2 => Q (x :: xs) H2) (f := fun v m1 => (evL F es r m1).bind fun vs m2 => R.ok (v :: vs) m2) C p fun v x u1 m1 H1 C1 G1 rx p1 => ?_
  refine oneL (P := fun xs H2 => Q (x :: xs) H2) (f := fun vs m2 => R.ok (v :: vs) m2) C1 p1 fun vs xs u2 m2 H2 C2 G2 rs hl p2 => ?_
  exact p2 m2 H2 (x :: xs) C2.w (G1.trans G2) (.cons (rx.go C1.w G2) rs) (by show xs.length + 1 = es.len + 1; rw [hl])
theorem fzL_ok {K : PySem.W.Frag} : ∀ {vs : List Vl} {xs : List V} {u : Mem} {P : List PyData → Mem → Prop}, World K H m u → Paired (RepV K H m u) vs xs → Post PX (fzL vs u) P → ∃ ds u', World K H m u' ∧ Goes H m u H m u' ∧ RepL K (Live m u') H ds xs ∧ P ds u'
  | _, _, u, P, W, .nil, p => ⟨[], u, W, Goes.refl _ _ _, .nil, p⟩
  | _, _, u, P, W, .cons (a := v) r t, p => by
    have p1 := Post.bind (r := fz v u) p
    cases e : fz v u with
    | no => rw [e] at p1; exact False.elim p1
    | ex c fs m => cases v with
      | d x => cases e
      | s ns => cases e
      | r n =>
        simp only [fz] at e
        split at e <;> cases e
    | ok d u1 =>
      rw [e] at p1
      obtain ⟨W1, G1, r1⟩ := fz_ok (PX := PX) W r e
      obtain ⟨ds, u2, W2, G2, r2, p2⟩ := fzL_ok W1 (pairs_go W G1 t) (Post.bind (r := fzL _ u1) p1)
      exact ⟨d :: ds, u2, W2, G1.trans G2, .cons (r1.go G2.gx W1.lv) r2, p2⟩
theorem fz_post {K : PySem.W.Frag} {v : Vl} {x : V} {P : PyData → Mem → Prop} (W : World K H m u) (r : RepV K H m u v x) (p : Post PX (fz v u) P) : ∃ d u', World K H m u' ∧ Goes H m u H m u' ∧ Rep K (Live m u') H d x ∧ P d u' := by
  cases e : fz v u with
  | no => rw [e] at p; exact False.elim p
  | ex c fs m => cases v with
    | d x => cases e
    | s ns => cases e
    | r n =>
      simp only [fz] at e
      split at e <;> cases e
  | ok d u1 =>
    rw [e] at p
    obtain ⟨W1, G1, r1⟩ := fz_ok (PX := PX) W r e
    exact ⟨d, u1, W1, G1, r1, p⟩
theorem se_tup {k : Nat} (hs : PA X xs (tL F X.K es)) (hz : es.len ≤ sizeLine) : PE X (.Tuple xs k pos) (tE F X.K (.tup es)) := by
  refine peI (pe_tup hs) fun σ H Q ⟨m, u, r, PX, C, p⟩ => ?_
  refine oneL (f := fun vs m1 => (fzL vs m1).bind fun xs m2 => R.ok (Vl.d (.tuple xs)) m2) C p fun vs xs u1 m1 H1 C1 G1 rs hl p1 => ?_
  obtain ⟨ds, u2, W2, G2, r2, p2⟩ := fzL_ok C1.w rs (Post.bind p1)
  refine ⟨by rw [hl]; exact hz, fun q hq => ?_⟩
  exact p2 m1 _ _ (W2.add (.new hq)) ((G1.trans G2).trans (.add (.new hq))) (.newTup W2.lv r2 (by rw [r2.length, hl]; exact hz) hq)
/-- a new list, frozen or a cell -/
theorem mkl_end {K : PySem.W.Frag} {fl : Bool} {ds : List PyData} {vs : List V} {Q : VK} {H0 : Hp} {m0 : List Addr} {u0 : Mem} {q : Addr} (W : World K H m u) (G : Goes H0 m0 u0 H m u) (rs : RepL K (Live m u) H ds vs) (hz : ds.length ≤ sizeLine) (hq : H q = none)
    (p : Post PX (mkl fl ds u) (Beh K H0 m0 u0 Q)) : Q (.ref q) (upd H q (.lst vs)) := by
  unfold mkl at p
  cases fl with
  | false => exact p m _ _ (W.add (.new hq)) (G.trans (.add (.new hq))) (.newLst W.lv rs hz hq)
  | true =>
    obtain ⟨W2, G2⟩ := W.al (o := .lst vs) (c := .lst ds) hq fun L g => ⟨hz, vs, upd_same, rs.go g W.lv⟩
    exact p (m ++ [q]) _ _ W2 (G.trans G2) ⟨q, by rw [← W.len]; simp, rfl⟩
theorem se_lst {fl : Bool} (hs : PA X xs (tL F X.K es)) (hz : es.len ≤ sizeLine) : PE X (.List xs pos) (tE F X.K (.lst fl es)) := by
  refine peI (pe_lst hs) fun σ H Q ⟨m, u, r, PX, C, p⟩ => ?_
  refine oneL (f := fun vs m1 => (fzL vs m1).bind fun xs m2 => mkl fl xs m2) C p fun vs xs u1 m1 H1 C1 G1 rs hl p1 => ?_
  obtain ⟨ds, u2, W2, G2, r2, p2⟩ := fzL_ok C1.w rs (Post.bind p1)
  exact ⟨by rw [hl]; exact hz, fun q hq => mkl_end W2 (G1.trans G2) r2 (by rw [r2.length, hl]; exact hz) hq p2⟩
/-! ### dict displays -/
theorem al_end {K : PySem.W.Frag} {kvs : List (Key × PyData)} {ks : List (Key × V)} {Q : VK} {H0 : Hp} {m0 : List Addr} {u0 : Mem} {q : Addr} (W : World K H m u) (G : Goes H0 m0 u0 H m u) (rs : RepK K (Live m u) H kvs ks) (hq : H q = none)
    (p : Post PX (al (.dct kvs) u) (Beh K H0 m0 u0 Q)) : Q (.ref q) (upd H q (.dK ks)) := by
  obtain ⟨W2, G2⟩ := W.al (o := .dK ks) (c := .dct kvs) hq fun L g => ⟨ks, upd_same, rs.go g W.lv⟩
  exact p (m ++ [q]) _ _ W2 (G.trans G2) ⟨q, by rw [← W.len]; simp, rfl⟩
theorem se_dic0 : PE X (.Dict [] [] pos) (tE F X.K (.dic [] .nil)) := by
  refine peI pe_dnewK fun σ H Q ⟨m, u, r, PX, C, p⟩ q hq => ?_
  refine al_end (PX := PX) C.w (Goes.refl _ _ _) .nil hq ?_
  have e : (u ++ [Cell.dct []])[u.length]? = some (.dct []) := by simp
  have p : Post PX (match dicOf [] [], (u ++ [Cell.dct []])[u.length]? with
    | some l, some (.dct []) => R.ok (Vl.r u.length) ((u ++ [Cell.dct []]).set u.length (.dct l))
    | _, _ => .no) (Beh X.K H m u Q) := p
  rw [e] at p
  have e2 : (u ++ [Cell.dct []]).set u.length (.dct []) = u ++ [Cell.dct []] := by
    rw [List.set_append_right _ _ (Nat.le_refl _), Nat.sub_self]
    rfl
  have p : Beh X.K H m u Q (Vl.r u.length) ((u ++ [Cell.dct []]).set u.length (.dct [])) := p
  rw [e2] at p
  exact p
def trsOf (F : Fs) (K : PySem.W.Frag) : List Str → Exs → List (TE × TE)
  | k :: ks, .cons e es => (tC (.str k), tE F K e) :: trsOf F K ks es
  | _, _ => []
theorem pairs_core {K : PySem.W.Frag} {α : Type} {q : α → Mem → Prop} : ∀ (ks : List Str) (es : Exs) {H : Hp} {m : List Addr} {u : Mem} {f : List Vl → Mem → R α} {Q : List (V × V) → Hp → Prop}, ks.length = es.len → Cfg K σ H m u r PX → Post PX ((evL F es r u).bind f) q →
    (∀ vs xs u1 m1 H1, Cfg K σ H1 m1 u1 r PX → Goes H m u H1 m1 u1 → Paired (RepV K H1 m1 u1) vs xs → xs.length = ks.length → Post PX (f vs u1) q → Q (ks.zipWith (fun k x => (V.str k, x)) xs) H1) → tPairs (trsOf F K ks es) σ H Q
  | [], .nil, H, m, u, f, Q, _, C, p, h => h [] [] u m H C (Goes.refl _ _ _) .nil rfl p
  | [], .cons _ _, _, _, _, _, _, e, _, _, _ => by simp [Exs.len] at e
  | _ :: _, .nil, _, _, _, _, _, e, _, _, _ => by simp [Exs.len] at e
  | k :: ks, .cons e0 es, H, m, u, f, Q, e, C, p, h => by
    have e' : ks.length = es.len := by simpa [Exs.len] using e
    show tE F K e0 σ H fun y H2 => tPairs (trsOf F K ks es) σ H2 fun ps H3 => Q ((V.str k, y) :: ps) H3
    have p : Post PX (((evE F e0 r u).bind fun v m1 => (evL F es r m1).bind fun vs m2 => R.ok (v :: vs) m2).bind f) q := p
    rw [bind_assoc'] at p
    simp only [bind_assoc', bind_ok] at p
    refine one C p fun v x u1 m1 H1 C1 G1 rx p1 => ?_
    refine pairs_core ks es e' C1 p1 fun vs xs u2 m2 H2 C2 G2 rs hl p2 => ?_
    exact h (v :: vs) (x :: xs) u2 m2 H2 C2 (G1.trans G2) (.cons (rx.go C1.w G2) rs) (by simp [hl]) p2
theorem dic_zip {K : PySem.W.Frag} {L : Addr → Prop} {H : Hp} : ∀ {ks : List Str} {ds : List PyData} {xs : List V} {l : List (Key × PyData)}, dicOf ks ds = some l → RepL K L H ds xs →
    ∃ kvs : List (Key × V), ks.zipWith (fun k x => (V.str k, x)) xs = kvs.map (fun kv => (kV kv.1, kv.2)) ∧ kvs.length = ks.length ∧ kvs.map (·.1) = ks.map Sum.inr ∧ RepK K L H l kvs
  | [], [], _, _, e, .nil => by cases e; exact ⟨[], rfl, rfl, rfl, .nil⟩
  | k :: ks, d :: ds, _, l, e, .cons (x := x) r t => by
    simp only [dicOf] at e
    obtain ⟨l', e1, rfl⟩ := Option.map_eq_some_iff.mp e
    obtain ⟨kvs, h1, h2, h3, h4⟩ := dic_zip e1 t
    refine ⟨(Sum.inr k, x) :: kvs, ?_, by simp [h2], by simp [h3], .cons r h4⟩
    rw [List.zipWith_cons_cons, List.map_cons, h1]
    rfl
  | [], _ :: _, _, _, e, _ => by cases e
  | _ :: _, [], _, _, e, _ => by cases e
theorem merge_nodup : ∀ (kvs acc : List (Key × V)), ((acc ++ kvs).map (·.1)).Nodup → mergeK acc kvs = acc ++ kvs
  | [], acc, _ => by simp [mergeK]
  | p :: kvs, acc, h => by
    have hp : putK acc p.1 p.2 = acc ++ [p] := by
      unfold putK
      have : (acc.any fun kv => decide (kv.1 = p.1)) = false := by
        rw [List.any_eq_false]
        intro x hx
        simp only [decide_eq_true_eq]
        intro e
        rw [List.map_append, List.nodup_append] at h
        exact h.2.2 x.1 (List.mem_map_of_mem hx) p.1 (by simp) e
      rw [this]
      rfl
    show mergeK (putK acc p.1 p.2) kvs = _
    rw [hp, merge_nodup kvs (acc ++ [p]) (by simpa using h)]
    simp
theorem nodup_inr : ∀ {ks : List Str}, ks.Nodup → (ks.map (Sum.inr : Str → Key)).Nodup
  | [], _ => .nil
  | k :: ks, h => by
    rw [List.nodup_cons] at h
    rw [List.map_cons, List.nodup_cons]
    exact ⟨fun q => by
      obtain ⟨x, hx, e⟩ := List.mem_map.mp q
      cases e
      exact h.1 hx, nodup_inr h.2⟩
theorem Live.al {c : Cell} {p : Addr} (hl : m.length = u.length) (hc : c.live = true) : Live (m ++ [p]) (u ++ [c]) p := ⟨m.length, c, by simp, by rw [hl]; simp, hc⟩
theorem dicOf_keys : ∀ {ks : List Str} {ds : List PyData} {l : List (Key × PyData)}, dicOf ks ds = some l → ks.length = ds.length
  | [], [], _, _ => rfl
  | k :: ks, d :: ds, l, e => by
    simp only [dicOf] at e
    obtain ⟨l', e1, rfl⟩ := Option.map_eq_some_iff.mp e
    exact congrArg Nat.succ (dicOf_keys e1)
  | [], _ :: _, _, e => by cases e
  | _ :: _, [], _, e => by cases e
theorem se_dic {ks : List Str} {keys : List (Option Expr)} {vals : List Expr} (h : PPs X pos keys vals (trsOf F X.K ks es)) (hall : keys.all (·.isSome) = true) (hl : keys.length = vals.length) (h0 : keys ≠ []) (h15 : keys.length ≤ 15)
    (hn : ks.Nodup) (hk : ks.length = es.len) (hk2 : ks.length = keys.length) : PE X (.Dict keys vals pos) (tE F X.K (.dic ks es)) := by
  refine peI (pe_disp h hall hl h0 h15) fun σ H Q ⟨m, u, r, PX, C, p⟩ q hq => ?_
  obtain ⟨W1, G1⟩ := C.w.al (o := .dK []) (c := .dct []) hq fun L g => ⟨[], upd_same, .nil⟩
  have C1 := C.go W1 G1
  have lq := Live.al (m := m) (u := u) (c := .dct []) (p := q) C.w.len rfl
  have p : Post PX ((evL F es r (u ++ [.dct []])).bind fun vs m1 => (fzL vs m1).bind fun xs m2 => match dicOf ks xs, m2[u.length]? with
    | some l, some (.dct []) => R.ok (Vl.r u.length) (m2.set u.length (.dct l))
    | _, _ => .no) (Beh X.K H m u Q) := p
  refine pairs_core ks es hk C1 p fun vs xs u2 m2 H2 C2 G2 rs hxl p2 => ?_
  obtain ⟨ds, u3, W3, G3, r3, p3⟩ := fzL_ok C2.w rs (Post.bind p2)
  split at p3
  · rename_i l e1 e2
    obtain ⟨kvs, h1, h2, h3, h4⟩ := dic_zip e1 r3
    have eq2 : m2[u.length]? = some q := G3.pre _ _ (G2.pre _ _ (by rw [← C.w.len]; simp))
    obtain ⟨ks0, e3, r0⟩ := W3.cell _ _ _ e2 eq2
    cases r0
    refine ⟨e3, kvs, h1, by rw [h2, hk2]; exact h15, ?_⟩
    have hm : mergeK [] kvs = kvs := by
      refine merge_nodup kvs [] ?_
      rw [List.nil_append, h3]
      exact nodup_inr hn
    rw [hm]
    obtain ⟨W4, G4⟩ := W3.wr (o := .dK kvs) (c' := .dct l) e2 eq2 rfl rfl fun L g => ⟨kvs, upd_same, h4.go g W3.lv⟩
    exact p3 m2 _ _ W4 ((G1.trans (G2.trans G3)).trans G4) ⟨q, eq2, rfl⟩
  · exact False.elim p3
/-! ### subscripts, slices -/
theorem se_idx (hu : X.A.units + 1 < cLine) (ha : PE X a (tE F X.K ea)) (hb : PE X b (tE F X.K eb)) (hs : noSl b = true) : PE X (.Subscript a b pos) (tE F X.K (.idx ea eb)) := by
  refine peI (pe_ix (idx_ok hu) ha hb (plain_ix hs)) fun σ H Q ⟨m, u, r, PX, C, p⟩ => ?_
  refine two (f := fun x y m2 => rd2 m2 x y fun p q => opt (idxop p q) m2) C p fun v w x y u2 m2 H2 C2 G2 rx ry p2 => ?_
  obtain ⟨da, db, h1, h2, p3⟩ := rd2_some (α := Unit) p2
  obtain ⟨d, e, k⟩ := fin_optL C2 G2 p3
  exact ⟨_, da, db, d, rx.read C2.w h1, ry.read C2.w h2, e, fun z rz => k z _ (.inl rfl) rz⟩
theorem se_slf {p2 : Pos} (ha : PE X a (tE F X.K ea)) (hb : PE X b (tE F X.K eb)) : PE X (.Subscript a (.Slice (some b) none none p2) pos) (tE F X.K (.slf ea eb)) := by
  refine peI (pe_slice slo_ok ha (po_some hb) po_none) fun σ H Q ⟨m, u, r, PX, C, p⟩ => ?_
  refine two (P := fun x y H2 => ∃ i, y = .int i ∧ rSlo X.K x (some i) none H2 Q) (f := fun x y m2 => match rd m2 x, y with
    | some p, .d (.int i) => opt (slop p (some i) none) m2
    | _, _ => .no) C p fun v w x y u2 m2 H2 C2 G2 rx ry p2 => ?_
  split at p2
  · rename_i d i e
    obtain ⟨d2, e2, k⟩ := fin_optL C2 G2 p2
    exact ⟨i, Rep.int' ry, _, d2, C2.w.lv, .inl ⟨d, rx.read C2.w e, e2⟩, k⟩
  · exact False.elim p2
theorem se_slt {p2 : Pos} (ha : PE X a (tE F X.K ea)) (hb : PE X b (tE F X.K eb)) : PE X (.Subscript a (.Slice none (some b) none p2) pos) (tE F X.K (.slt ea eb)) := by
  refine peI (pe_slice slo_ok ha po_none (po_some hb)) fun σ H Q ⟨m, u, r, PX, C, p⟩ => ?_
  refine two (P := fun x y H2 => ∃ i, y = .int i ∧ rSlo X.K x none (some i) H2 Q) (f := fun x y m2 => match x, y with
    | .s ns, .d (.int i) => R.ok (Vl.d (.list ((cutL ns none (some i)).map .int))) m2
    | x, .d (.int i) => match rd m2 x with
      | some p => opt (slop p none (some i)) m2
      | none => .no
    | _, _ => .no) C p fun v w x y u2 m2 H2 C2 G2 rx ry p2 => ?_
  split at p2
  · rename_i ns i
    obtain ⟨a0, rfl, hq, hz⟩ := rx
    exact ⟨i, Rep.int' ry, _, _, C2.w.lv, .inr ⟨a0, ns, rfl, hq, hz, rfl⟩, fun z H' ad rz => p2 _ _ _ (C2.w.add ad) (G2.trans (.add ad)) rz⟩
  · rename_i i _
    split at p2
    · rename_i d e
      obtain ⟨d2, e2, k⟩ := fin_optL C2 G2 p2
      exact ⟨i, Rep.int' ry, _, d2, C2.w.lv, .inl ⟨d, rx.read C2.w e, e2⟩, k⟩
    · exact False.elim p2
  · exact False.elim p2
theorem se_sl2 {p2 : Pos} (ha : PE X a (tE F X.K ea)) (hb : PE X b (tE F X.K eb)) (hc : PE X c (tE F X.K ec)) : PE X (.Subscript a (.Slice (some b) (some c) none p2) pos) (tE F X.K (.sl2 ea eb ec)) := by
  refine peI (pe_slice slo_ok ha (po_some hb) (po_some hc)) fun σ H Q ⟨m, u, r, PX, C, p⟩ => ?_
  show tE F X.K ea σ H fun x H1 => tE F X.K eb σ H1 fun y H2 => ∃ i, y = .int i ∧ tE F X.K ec σ H2 fun z H3 => ∃ j, z = .int j ∧ rSlo X.K x (some i) (some j) H3 Q
  refine two (f := fun x y m2 => (evE F ec r m2).bind fun z m3 => match rd m3 x, y, z with
    | some p, .d (.int i), .d (.int j) => opt (slop p (some i) (some j)) m3
    | _, _, _ => .no) C p fun v w x y u2 m2 H2 C2 G2 rx ry p2 => ?_
  -- the second part must be an int: known when all are there
  have hi : ∃ i, w = .d (.int i) := by
    have p3 := Post.bind p2
    cases e : evE F ec r u2 with
    | no => rw [e] at p3; exact False.elim p3
    | ex c fs m => rw [e] at p3; exact (C2.vx _ _ _ p3).elim
    | ok z m3 =>
      rw [e] at p3
      have p3 : Post PX (match rd m3 v, w, z with
        | some p, .d (.int i), .d (.int j) => opt (slop p (some i) (some j)) m3
        | _, _, _ => .no) _ := p3
      split at p3
      · exact ⟨_, rfl⟩
      · exact False.elim p3
  obtain ⟨i, rfl⟩ := hi
  refine ⟨i, Rep.int' ry, ?_⟩
  refine one C2 p2 fun z1 z u3 m3 H3 C3 G3 rz p3 => ?_
  split at p3
  · rename_i d i' j e ei
    cases ei
    obtain ⟨d2, e2, k⟩ := fin_optL C3 (G2.trans G3) p3
    exact ⟨j, Rep.int' rz, _, d2, C3.w.lv, .inl ⟨d, (rx.go C2.w G3).read C3.w e, e2⟩, k⟩
  · exact False.elim p3
/-! ### calls -/
theorem se_call {n : Nat} {T : Str → Option Fn} {f : Str} {g : Str} {fa : Addr} {fd : FuncData} {ps : List Str} {gp : Pos} (R0 : FnOk X.prog X.w X.K X.mg X.base CX0 n fa fd ps (spF X.K T n f)) (hr : Room n X.A) (hg : Gl X g) (ho : okN g = true) (hm : X.mg g = some (.ref fa))
    (hk : PySem.W.keepIn X.K (.ref fa) = true) (hb : Binds X.K fd ps []) (hs : PA X xs (tL (callN T n) X.K es)) (hst : xs.all nostar = true) (hl : es.len = xs.length) : PE X (.Call (.Name g gp) xs [] pos) (tE (callN T n) X.K (.call f es)) := by
  have go : ∀ σ H Q, tE (callN T n) X.K (.call f es) σ H Q → tCall (spF X.K T n f) [] E0 (tL (callN T n) X.K es) σ H Q := fun σ H Q ⟨m, u, r, PX, C, p⟩ =>
    oneL (P := fun vs H1 => spF X.K T n f (vs ++ []) H1 Q E0) (f := fun vs m1 => callN T n f vs m1) C p fun vs xs u1 m1 H1 C1 G1 rs hl p1 => by
      rw [List.append_nil]
      exact ⟨m1, u1, vs, PX, C1.vx, C1.w, rs, p1.mono fun _ _ z => z.later G1⟩
  cases xs with
  | nil =>
    refine peI (pe_call0 R0 hr hg hm hk hb .nil pass0 (okN_d ho).1) fun σ H Q q => ?_
    obtain ⟨m, u, r, PX, C, p⟩ := id q
    have z := go σ H Q q
    obtain ⟨m, u, r, PX, C, p⟩ := z
    cases es with
    | nil => exact p m H [] C.w (Goes.refl _ _ _) .nil rfl
    | cons e es => simp [Exs.len] at hl
  | cons x xs =>
    rw [List.all_cons, Bool.and_eq_true] at hst
    exact peI (pe_call R0 hr hg hm hk hb .nil pass0 hs (okN_d ho).1 (star_cons hst.1) (star_any hst.2)) go
end
end Mp
-- Mp12
set_option Elab.async false
set_option linter.all false
set_option maxRecDepth 100000
set_option maxHeartbeats 2000000
namespace Mp
open PySem PySem.Spec PyProof.Rows L2
section
variable {X : Cx} {F : Fs} {σ : L2.St} {H : Hp} {m : List Addr} {u : Mem} {r : En} {PX : Str → List PyData → Mem → Prop}
variable {a b c : Expr} {ea eb ec : Ex} {pos gp : Pos} {es : Exs} {xs : List Expr}

/-! ### built-ins, isinstance -/
theorem boot_ty (t : Ty) : bootBuiltins (Str.ofString (tyN t)) = some (.type (tyN t)) := by cases t <;> decide +kernel
theorem se_isi {t : Ty} {yp : Pos} (ha : PE X a (tE F X.K ea)) (hg : Gl X "isinstance") (hm : X.mg "isinstance" = none) (hg2 : Gl X (Str.ofString (tyN t))) (hm2 : X.mg (Str.ofString (tyN t)) = none) (ho : okN (Str.ofString (tyN t)) = true) (hn : nostar a = true) :
    PE X (.Call (.Name "isinstance" gp) [a, .Name (Str.ofString (tyN t)) yp] [] pos) (tE F X.K (.isi ea t)) := by
  refine peI (pe_callB (isi_ok t) hg hm PyProof.Rows.boot_isinstance (pa_cons ha (pa_cons (pe_bltn hg2 hm2 (boot_ty t) (v := .ty (tyN t)) rfl (okN_d ho).2.2 (okN_d ho).1) pa_nil (star_cons rfl)) (star_cons hn)) (by decide) (by decide) (star_cons hn) (star_any rfl)) fun σ H Q ⟨m, u, r, PX, C, p⟩ => ?_
  refine one (P := fun x H1 => rIsiM X.K t [x, .ty (tyN t)] H1 Q) (f := fun x m1 => match rd m1 x with
    | some p => opB (isiop p t) m1
    | none => .no) C p fun v x u1 m1 H1 C1 G1 rx p1 => ?_
  split at p1
  · rename_i d e
    obtain ⟨b, e2, k⟩ := fin_b C1 G1 p1
    exact ⟨_, d, x, b, rfl, rx.read C1.w e, e2, k⟩
  · exact False.elim p1
theorem outM_end {K : PySem.W.Frag} {fl : Bool} {o : Option Out} {Q : VK} {H0 : Hp} {m0 : List Addr} {u0 : Mem} (W : World K H m u) (G : Goes H0 m0 u0 H m u) (p : Post PX (outM fl o u) (Beh K H0 m0 u0 Q)) :
    ∃ o', o = some o' ∧ ∀ z H', RepOut K (Live m u) H o' z H' → Q z H' := by
  cases o with
  | none => exact False.elim p
  | some o' =>
    refine ⟨o', rfl, fun z H' h => ?_⟩
    cases o' with
    | val d => exact p m H' z (W.add h.1) (G.trans (.add h.1)) h.2
    | lst ds =>
      obtain ⟨q, vs, rfl, hq, rfl, hz, rs⟩ := h
      exact mkl_end W G rs hz hq p
    | dct kvs =>
      obtain ⟨q, ks, rfl, hq, rfl, rs⟩ := h
      exact al_end W G rs hq p
theorem blt_core {K : PySem.W.Frag} {fl : Bool} {t : Bt} {Q : VK} (h : tE F K (.blt fl t ea) σ H Q) : tE F K ea σ H fun x H1 => rBlt K t [x] H1 Q := by
  obtain ⟨m, u, r, PX, C, p⟩ := h
  refine one (f := fun x m1 => match rd m1 x with
    | some p => outM fl (bltop t p) m1
    | none => .no) C p fun v x u1 m1 H1 C1 G1 rx p1 => ?_
  split at p1
  · rename_i d e
    obtain ⟨o', e2, k⟩ := outM_end C1.w G1 p1
    exact ⟨_, d, x, o', C1.w.lv, rfl, rx.read C1.w e, e2, k⟩
  · exact False.elim p1
theorem se_blt {fl : Bool} {t : Bt} (hc : X.calm = true) (ha : PE X a (tE F X.K ea)) (hg : Gl X (btN t)) (hm : X.mg (btN t) = none) (hn : nostar a = true) : PE X (.Call (.Name (btN t) gp) [a] [] pos) (tE F X.K (.blt fl t ea)) := by
  have hA := pa_cons ha (pa_nil (X := X)) (star_cons hn)
  have ok := blt_ok (X := X) hc t
  cases t with
  | len => exact peI (pe_callB ok hg hm PySem.boot_len hA (by decide) (by decide) (star_cons hn) (star_any rfl)) fun σ H Q h => blt_core h
  | tuple => exact peI (pe_callTy ok hg hm PyProof.Rows.boot_tuple hA (by decide) (by decide) (star_cons hn) (star_any rfl)) fun σ H Q h => blt_core h
  | list => exact peI (pe_callTy ok hg hm PyProof.Rows.boot_list hA (by decide) (by decide) (star_cons hn) (star_any rfl)) fun σ H Q h => blt_core h
  | str => exact peI (pe_callTy ok hg hm PyProof.Rows.boot_str hA (by decide) (by decide) (star_cons hn) (star_any rfl)) fun σ H Q h => blt_core h
  | int => exact peI (pe_callTy ok hg hm PyProof.Rows.boot_int hA (by decide) (by decide) (star_cons hn) (star_any rfl)) fun σ H Q h => blt_core h
  | sum => exact peI (pe_callB ok hg hm PyProof.Rows.boot_sum hA (by decide) (by decide) (star_cons hn) (star_any rfl)) fun σ H Q h => blt_core h
  | all => exact peI (pe_callB ok hg hm (by decide +kernel) hA (by decide) (by decide) (star_cons hn) (star_any rfl)) fun σ H Q h => blt_core h
  | any => exact peI (pe_callB ok hg hm (by decide +kernel) hA (by decide) (by decide) (star_cons hn) (star_any rfl)) fun σ H Q h => blt_core h
  | dict => exact peI (pe_callTy ok hg hm PyProof.Rows.boot_dict hA (by decide) (by decide) (star_cons hn) (star_any rfl)) fun σ H Q h => blt_core h
/-! ### methods of built-ins -/
theorem mth_core {K : PySem.W.Frag} {t : Mt} {Q : VK} {T : String} {r0 : V → List V → Hp → VK → Prop} (h : tE F K (.mth t ea es) σ H Q)
    (hT : ∀ {m : List Addr} {u : Mem} {H : Hp} {v : Vl} {x : V}, World K H m u → RepV K H m u v x → mtK t u v = true → tyV K T x H)
    (hr : ∀ {m : List Addr} {u : Mem} {H : Hp} {p : PyData} {x : V} {xs : List V} {ds : List PyData} {d : PyData}, World K H m u → Now K (Live m u) H p x → RepL K (Live m u) H ds xs → mthop t p ds = some d → (∀ z, Rep K (Live m u) H d z → Q z H) → r0 x xs H Q) :
    tBM K T r0 (tE F K ea) (tL F K es) σ H Q := by
  obtain ⟨m, u, r, PX, C, p⟩ := h
  refine one (P := fun x H1 => tyV K T x H1 ∧ tL F K es σ H1 fun xs H2 => r0 x xs H2 Q) (f := fun x m1 => match mtK t m1 x with
    | true => (evL F es r m1).bind fun vs m2 => (fzL vs m2).bind fun xs m3 => match rd m3 x with
      | some p => opt (mthop t p xs) m3
      | none => .no
    | false => .no) C p fun v x u1 m1 H1 C1 G1 rx p1 => ?_
  split at p1
  · rename_i e
    refine ⟨hT C1.w rx e, ?_⟩
    refine oneL C1 p1 fun vs xs u2 m2 H2 C2 G2 rs hl p2 => ?_
    obtain ⟨ds, u3, W3, G3, r3, p3⟩ := fzL_ok C2.w rs (Post.bind p2)
    split at p3
    · rename_i d e2
      have C3 := C2.go W3 G3
      obtain ⟨d2, e3, k⟩ := fin_optL C3 (G1.trans (G2.trans G3)) p3
      have rx3 := (rx.go C1.w (G2.trans G3))
      exact hr W3 (rx3.read W3 e2) r3 e3 fun z rz => k z _ (.inl rfl) rz
    · exact False.elim p3
  · exact False.elim p1
theorem mtK_rd {t : Mt} {v : Vl} (h : mtK t u v = true) : (t = .get ∧ ∃ l, rd u v = some (.dict l)) ∨ (t = .index ∧ ∃ l, rd u v = some (.list l)) ∨ ((t = .join ∨ t = .find) ∧ ∃ l, rd u v = some (.str l)) := by
  unfold mtK at h
  split at h
  · exact .inl ⟨rfl, _, by assumption⟩
  · exact .inr (.inl ⟨rfl, _, by assumption⟩)
  · exact .inr (.inr ⟨.inl rfl, _, by assumption⟩)
  · exact .inr (.inr ⟨.inr rfl, _, by assumption⟩)
  · cases h
theorem se_mth {t : Mt} {apos cpos : Pos} (hu : X.A.units + 1 < cLine) (ha : PE X a (tE F X.K ea)) (hs : PA X (b :: xs) (tL F X.K es)) (h0 : noC0 a = true) (hst : (b :: xs).all nostar = true) (hline : (apos.endLine == cpos.line) = true) (hfew : (b :: xs).length < 29) :
    PE X (.Call (.Attribute a (mtN t) apos) (b :: xs) [] cpos) (tE F X.K (.mth t ea es)) := by
  have few : ((backTo cpos (starEach (b :: xs) X.env)).all (fun x => !x.1) && (backToKw cpos (keywordEach [] X.env)).all (fun x => x.1.isSome) && decide ((b :: xs).length + ([] : List Keyword).length + (if ([] : List Keyword).isEmpty then 0 else 1) < 30)) = true := by
    rw [star_few hst]
    have e : decide ((b :: xs).length + ([] : List Keyword).length + (if ([] : List Keyword).isEmpty then 0 else 1) < 30) = true := decide_eq_true (by show (b :: xs).length + 0 + 0 < 30; omega)
    rw [e]
    rfl
  have hst' := hst
  rw [List.all_cons, Bool.and_eq_true] at hst'
  have noT : ∀ {t : Mt} {m : List Addr} {u : Mem} {H : Hp} {v : Vl} {x : V} {d : PyData}, World X.K H m u → RepV X.K H m u v x → rd u v = some d → Now X.K (Live m u) H d x := fun W r e => r.read W e
  cases t with
  | get =>
    refine peI (pe_bm PySem.F.plainAttrs_dict PySem.F.slot_dict_get PySem.F.type_dict_get (get_ok hu) ha hs (attr_base h0) few hline (star_cons hst'.1) (star_any hst'.2)) fun σ H Q h => mth_core h (fun W rx e => ?_) fun W hp hd e k => ?_
    · rcases mtK_rd e with ⟨_, l, e1⟩ | ⟨q, _⟩ | ⟨q | q, _⟩
      · obtain ⟨a0, kvs, ks, rfl, _, e2, _⟩ := (rx.read W e1).dct
        exact .inr (.inr (.inl ⟨rfl, .inl ⟨_, e2⟩⟩))
      · cases q
      · cases q
      · cases q
    · refine ⟨?_, _, _, _, _, W.lv, hp, hd, e, k⟩
      have e : getop _ _ = some _ := e
      unfold getop at e
      split at e
      · obtain ⟨a0, kvs, ks, rfl, _, e2, _⟩ := hp.dct
        exact ⟨a0, rfl, _, e2⟩
      · cases e
  | index =>
    refine peI (pe_bm PySem.F.plainAttrs_list PySem.F.slot_list_index PySem.F.type_list_index index_ok ha hs (attr_base h0) few hline (star_cons hst'.1) (star_any hst'.2)) fun σ H Q h => ?_
    refine mth_core h (fun W rx e => ?_) fun W hp hd e k => ⟨_, _, _, _, W.lv, hp, hd, e, k⟩
    · rcases mtK_rd e with ⟨q, _⟩ | ⟨_, l, e1⟩ | ⟨q | q, _⟩
      · cases q
      · obtain ⟨a0, ks, rfl, _, e2, _⟩ := (rx.read W e1).lst
        exact .inl ⟨rfl, _, .of e2⟩
      · cases q
      · cases q
  | join =>
    refine peI (pe_bm PySem.F.plainAttrs_str PySem.F.slot_str_join PySem.F.type_str_join join_ok ha hs (attr_base h0) few hline (star_cons hst'.1) (star_any hst'.2)) fun σ H Q h => mth_core h (fun W rx e => ?_) fun W hp hd e k => ?_
    · rcases mtK_rd e with ⟨q, _⟩ | ⟨q, _⟩ | ⟨_, l, e1⟩
      · cases q
      · cases q
      · cases (rx.read W e1).str
        rfl
    · refine ⟨?_, _, _, _, _, W.lv, hp, hd, e, k⟩
      have e : joinop _ _ = some _ := e
      unfold joinop at e
      split at e
      · exact ⟨_, hp.str⟩
      · cases e
  | find =>
    refine peI (pe_bm PySem.F.plainAttrs_str PySem.F.slot_str_find PySem.F.type_str_find find_ok ha hs (attr_base h0) few hline (star_cons hst'.1) (star_any hst'.2)) fun σ H Q h => mth_core h (fun W rx e => ?_) fun W hp hd e k => ?_
    · rcases mtK_rd e with ⟨q, _⟩ | ⟨q, _⟩ | ⟨_, l, e1⟩
      · cases q
      · cases q
      · cases (rx.read W e1).str
        rfl
    · refine ⟨?_, _, _, _, _, W.lv, hp, hd, e, k⟩
      have e : findop _ _ = some _ := e
      unfold findop at e
      split at e
      · exact ⟨_, hp.str⟩
      · cases e
/-! ### what is walked -/
/-- the iterator J yields these items -/
def ItOk (K : PySem.W.Frag) (L : Addr → Prop) (H : Hp) (ds : List PyData) (J : L2.It) : Prop := ds.length ≤ sizeLine ∧
  ((∃ a xs, J = Itl K a ∧ H a = some (.lst xs) ∧ ¬ L a ∧ RepL K L H ds xs) ∨ (∃ a xs, J = Itt K a ∧ SqT K H a xs ∧ RepL K L H ds xs) ∨ ∃ lo n, J = Itr lo n ∧ ds = (List.range n).map fun (i : Nat) => PyData.int (lo + (i : Int)))
def tI (F : Fs) (K : PySem.W.Frag) (it : Mp.It) : TI := fun σ H Q => ∃ m u r PX, Cfg K σ H m u r PX ∧ Post PX (evI F it r u) fun ds u' => ∀ (m' : List Addr) (H' : Hp) (J : L2.It), World K H' m' u' → Goes H m u H' m' u' → ItOk K (Live m' u') H' ds J → Q J H'
end
end Mp
-- Mp13
set_option Elab.async false
set_option linter.all false
set_option maxRecDepth 100000
set_option maxHeartbeats 2000000
namespace Mp
open PySem PySem.Spec PyProof.Rows L2

/-! ### what is walked -/
section
variable {X : Cx} {F : Fs} {σ : L2.St} {H : Hp} {m : List Addr} {u : Mem} {r : En} {PX : Str → List PyData → Mem → Prop}
variable {a b c tg : Expr} {ea eb ec : Ex} {pos gp : Pos} {es : Exs} {xs : List Expr}
theorem si_e (ha : PE X a (tE F X.K ea)) : PI X tg a (tI F X.K (.e ea)) := by
  refine piI (piOr (pi_list ha) (pi_tup ha)) fun σ H RR ⟨m, u, r, PX, C, p⟩ => ?_
  have p1 := Post.bind (r := evE F ea r u) p
  cases e : evE F ea r u with
  | no => rw [e] at p1; exact False.elim p1
  | ex c fs m => rw [e] at p1; exact (C.vx _ _ _ p1).elim
  | ok v u1 =>
    rw [e] at p1
    have p2 := Post.bind (r := fz v u1) p1
    cases e2 : fz v u1 with
    | no => rw [e2] at p2; exact False.elim p2
    | ex c fs m => rw [e2] at p2; exact (C.vx _ _ _ p2).elim
    | ok d u2 =>
      rw [e2] at p2
      cases d with
      | list ds =>
        refine .inl ⟨m, u, r, PX, C, ?_⟩
        rw [e]
        intro m' H' x W G rx
        obtain ⟨W2, G2, r2⟩ := fz_ok (PX := PX) W rx e2
        cases r2 with
        | lst z e3 n q => exact ⟨_, rfl, ⟨_, .of e3⟩, p2 m' H' _ W2 (G.trans G2) ⟨z, .inl ⟨_, _, rfl, e3, n, q⟩⟩⟩
      | tuple ds =>
        refine .inr ⟨m, u, r, PX, C, ?_⟩
        rw [e]
        intro m' H' x W G rx
        obtain ⟨W2, G2, r2⟩ := fz_ok (PX := PX) W rx e2
        cases r2 with
        | tup z e3 q => exact ⟨_, rfl, ⟨_, e3⟩, p2 m' H' _ W2 (G.trans G2) ⟨z, .inr (.inl ⟨_, _, rfl, e3, q⟩)⟩⟩
      | _ => exact False.elim p2
theorem rngOk_of {i j : Int} (h : rngOk i j = true) : -(2 ^ 62) ≤ i ∧ i < 2 ^ 62 ∧ -(2 ^ 62) ≤ j ∧ j < 2 ^ 62 ∧ (j - i).toNat ≤ sizeLine := by
  simp only [rngOk, Bool.and_eq_true, decide_eq_true_eq] at h
  exact ⟨h.1.1.1.1, h.1.1.1.2, h.1.1.2, h.1.2, h.2⟩
theorem si_rng (ha : PE X a (tE F X.K ea)) (hg : Gl X "range") (hm : X.mg "range" = none) (hn : nostar a = true) : PI X tg (.Call (.Name "range" gp) [a] [] pos) (tI F X.K (.rng ea)) := by
  refine piI (pi_range1 hg hm (pa_cons ha pa_nil (star_cons hn)) (by rw [star_cons hn]; rfl)) fun σ H RR ⟨m, u, r, PX, C, p⟩ => ?_
  show tE F X.K ea σ H fun x H1 => ∃ j : Int, [x] = [.int j] ∧ -(2 ^ 62) ≤ j ∧ j < 2 ^ 62 ∧ RR (Itr 0 j.toNat) H1
  refine one (f := fun v m1 => match v with
    | .d (.int b) => if rngOk 0 b then R.ok (rngL 0 b) m1 else .no
    | _ => .no) C p fun v x u1 m1 H1 C1 G1 rx p1 => ?_
  split at p1
  · rename_i j
    split at p1
    · rename_i h
      obtain ⟨h1, h2, h3, h4, h5⟩ := rngOk_of h
      refine ⟨j, by rw [Rep.int' rx], h3, h4, p1 m1 H1 _ C1.w G1 ⟨?_, .inr (.inr ⟨0, j.toNat, rfl, ?_⟩)⟩⟩
      · unfold rngL
        rw [List.length_map, List.length_range]
        exact h5
      · unfold rngL
        rw [Int.sub_zero]
    · exact False.elim p1
  · exact False.elim p1
theorem si_rng2 (ha : PE X a (tE F X.K ea)) (hb : PE X b (tE F X.K eb)) (hg : Gl X "range") (hm : X.mg "range" = none) (hn : nostar a = true) (hn2 : nostar b = true) : PI X tg (.Call (.Name "range" gp) [a, b] [] pos) (tI F X.K (.rng2 ea eb)) := by
  refine piI (pi_range2 hg hm (pa_cons ha (pa_cons hb pa_nil (star_cons hn2)) (star_cons hn)) (by rw [star_cons hn, star_cons hn2]; rfl) (by rw [star_cons hn2]; rfl)) fun σ H RR ⟨m, u, r, PX, C, p⟩ => ?_
  show tE F X.K ea σ H fun x H1 => tE F X.K eb σ H1 fun y H2 => ∃ i j : Int, [x, y] = [.int i, .int j] ∧ (-(2 ^ 62) ≤ i ∧ i < 2 ^ 62 ∧ -(2 ^ 62) ≤ j ∧ j < 2 ^ 62) ∧ RR (Itr i (j - i).toNat) H2
  refine two (f := fun v w m2 => match v, w with
    | .d (.int a), .d (.int b) => if rngOk a b then R.ok (rngL a b) m2 else .no
    | _, _ => .no) C p fun v w x y u1 m1 H1 C1 G1 rx ry p1 => ?_
  split at p1
  · rename_i i j
    split at p1
    · rename_i h
      obtain ⟨h1, h2, h3, h4, h5⟩ := rngOk_of h
      refine ⟨i, j, by rw [Rep.int' rx, Rep.int' ry], ⟨h1, h2, h3, h4⟩, p1 m1 H1 _ C1.w G1 ⟨?_, .inr (.inr ⟨i, _, rfl, rfl⟩)⟩⟩
      unfold rngL
      rw [List.length_map, List.length_range]
      exact h5
    · exact False.elim p1
  · exact False.elim p1

/-! ### targets -/
def gsOf : List Nat → TGs
  | [] => gNil
  | i :: is => gCons (gName i) (gsOf is)
def gOf (K : PySem.W.Frag) : Tg → TG
  | .v i => gName i
  | .t is => gTup K is.length (gsOf is)
theorem sgs_ok {N : List Str} (hN : X.N = N) (nd : N.Nodup) : ∀ {is : List Nat} {es : List Expr} {own : List (Str × Nat)}, tgB.namesB N is es own = true → (∀ p ∈ own, Loc X.env.scope p.1 ∧ (X.fn p.1 = true ∨ X.env.scope.names.lookup p.1 = some .local)) →
    PGs X es (gsOf is) ∧ (assignEach es X.env).findIdx? (·.1) = none ∧ (assignEach es X.env).length = es.length
  | [], [], [], _, _ => ⟨pgs_nil, rfl, rfl⟩
  | i :: is, .Name x pos :: es, (y, j) :: own, h, hl => by
    simp only [tgB.namesB, Bool.and_eq_true, decide_eq_true_eq] at h
    obtain ⟨⟨⟨h1, h2⟩, h3⟩, h4⟩ := h
    obtain ⟨g1, g2, g3⟩ := sgs_ok hN nd h4 fun p hp => hl p (List.mem_cons_of_mem _ hp)
    obtain ⟨l1, l2⟩ := hl (y, j) List.mem_cons_self
    simp only at l1 l2
    rw [h2] at l1 l2
    refine ⟨pgs_cons (pg_name (i := i) (by rw [hN]; exact nd) (by rw [hN]; exact h1) l1 l2) g1 rfl, ?_, ?_⟩
    · show List.findIdx? (·.1) ((false, assign (.Name x pos) X.env) :: assignEach es X.env) = none
      rw [List.findIdx?_cons]
      simp [g2]
    · show (assignEach es X.env).length + 1 = es.length + 1
      rw [g3]
theorem sg_ok {N : List Str} {t : Tg} {own : List (Str × Nat)} (hN : X.N = N) (nd : N.Nodup) (hc : X.calm = true) (h : tgB N t tg own = true) (hl : ∀ p ∈ own, Loc X.env.scope p.1 ∧ (X.fn p.1 = true ∨ X.env.scope.names.lookup p.1 = some .local)) : PG X tg (gOf X.K t) := by
  cases t with
  | v i =>
    cases tg <;> first | (cases h; done) | skip
    rename_i x pos
    simp only [tgB, Bool.and_eq_true, decide_eq_true_eq] at h
    obtain ⟨l1, l2⟩ := hl (x, i) (by rw [h.2]; simp)
    exact pg_name (i := i) (by rw [hN]; exact nd) (by rw [hN]; exact h.1) l1 l2
  | t is =>
    cases tg <;> first | (cases h; done) | skip
    rename_i es k pos
    simp only [tgB, Bool.and_eq_true, decide_eq_true_eq] at h
    obtain ⟨g1, g2, g3⟩ := sgs_ok hN nd h.2 hl
    have := pg_tup (k := k) (pos := pos) hc g1 rfl g2
    rw [g3, h.1.2] at this
    exact this
theorem RepEn.set {K : PySem.W.Frag} (e : RepEn K H m u r σ) {i : Nat} {v : Vl} {x : V} (h : RepV K H m u v x) : RepEn K H m u (r.set i (some v)) (σ.set i (some x)) := by
  refine ⟨by rw [List.length_set, List.length_set, e.1], fun j w hw => ?_⟩
  by_cases hj : i = j
  · subst hj
    by_cases hi : i < r.length
    · rw [List.getElem?_set_self hi] at hw
      cases hw
      exact ⟨x, by rw [List.getElem?_set_self (by rw [← e.1]; exact hi)], h⟩
    · rw [List.getElem?_eq_none (by rw [List.length_set]; omega)] at hw
      cases hw
  · rw [List.getElem?_set_ne hj] at hw
    obtain ⟨y, h1, h2⟩ := e.2 j w hw
    exact ⟨y, by rw [List.getElem?_set_ne hj]; exact h1, h2⟩
theorem RepEn.unset {K : PySem.W.Frag} (e : RepEn K H m u r σ) (i : Nat) : RepEn K H m u (r.set i none) (σ.set i none) := by
  refine ⟨by rw [List.length_set, List.length_set, e.1], fun j w hw => ?_⟩
  by_cases hj : i = j
  · subst hj
    by_cases hi : i < r.length
    · rw [List.getElem?_set_self hi] at hw
      cases hw
    · rw [List.getElem?_eq_none (by rw [List.length_set]; omega)] at hw
      cases hw
  · rw [List.getElem?_set_ne hj] at hw
    obtain ⟨y, h1, h2⟩ := e.2 j w hw
    exact ⟨y, by rw [List.getElem?_set_ne hj]; exact h1, h2⟩
theorem RepEn.wipe {K : PySem.W.Frag} (e : RepEn K H m u r σ) : ∀ vs : List Nat, RepEn K H m u (wipeE r vs) (L2.wipe σ vs)
  | [] => e
  | v :: vs => (RepEn.wipe e vs).unset v
theorem wipe_get (σ : L2.St) (j : Nat) : ∀ vs : List Nat, (L2.wipe σ vs)[j]? = if j ∈ vs ∧ j < σ.length then some none else σ[j]?
  | [] => by simp [L2.wipe]
  | v :: vs => by
    show ((L2.wipe σ vs).set v none)[j]? = _
    rw [List.getElem?_set, wipe_get σ j vs, wipe_length]
    by_cases h1 : v = j
    · subst h1
      by_cases h2 : v < σ.length
      · simp [h2]
      · simp [h2]
    · simp [h1, Ne.symm h1]
theorem wipe_set {σ : L2.St} {i : Nat} {o : Option V} {vs : List Nat} (h : i ∈ vs) : L2.wipe (σ.set i o) vs = L2.wipe σ vs := by
  apply List.ext_getElem?
  intro j
  rw [wipe_get, wipe_get, List.length_set, List.getElem?_set]
  by_cases h1 : i = j
  · subst h1
    simp only [h, true_and, if_true]
    by_cases h2 : i < σ.length
    · simp [h2]
    · simp [h2]
  · simp [h1]
theorem wipe_wipe (σ : L2.St) (vs : List Nat) : L2.wipe (L2.wipe σ vs) vs = L2.wipe σ vs := by
  apply List.ext_getElem?
  intro j
  rw [wipe_get, wipe_length, wipe_get]
  split <;> rfl
theorem gs_bind {K : PySem.W.Frag} {vs : List Nat} : ∀ {is : List Nat} {ds : List PyData} {xs : List V} {r : En} {σ : L2.St} {Q : L2.St → Hp → Prop}, RepEn K H m u r σ → RepL K (Live m u) H ds xs → ds.length = is.length → (∀ i ∈ is, i ∈ vs) →
    (∀ σ1, RepEn K H m u (setAll r is ds) σ1 → L2.wipe σ1 vs = L2.wipe σ vs → Q σ1 H) → gsOf is xs σ H Q
  | [], [], _, r, σ, Q, e, .nil, _, _, h => ⟨rfl, h σ e rfl⟩
  | i :: is, d :: ds, _, r, σ, Q, e, .cons (x := x) (xs := xs) rx t, hl, hv, h => ⟨x, xs, rfl, gs_bind (e.set (i := i) (v := .d d) rx) t (by simpa using hl) (fun j hj => hv j (List.mem_cons_of_mem _ hj)) fun σ1 e1 w1 => h σ1 e1 (by rw [w1, wipe_set (hv i List.mem_cons_self)])⟩
  | [], _ :: _, _, _, _, _, _, _, hl, _, _ => by simp at hl
  | _ :: _, [], _, _, _, _, _, _, hl, _, _ => by simp at hl
theorem g_bind {K : PySem.W.Frag} {t : Tg} {d : PyData} {x : V} {r r1 : En} {σ : L2.St} {Q : L2.St → Hp → Prop} {vs : List Nat} (e : RepEn K H m u r σ) (rx : Rep K (Live m u) H d x) (hb : bindT r t d = some r1) (hv : ∀ i ∈ t.slots, i ∈ vs)
    (h : ∀ σ1, RepEn K H m u r1 σ1 → L2.wipe σ1 vs = L2.wipe σ vs → Q σ1 H) : gOf K t x σ H Q := by
  cases t with
  | v i =>
    cases hb
    exact h _ (e.set (v := .d d) rx) (wipe_set (hv i (by simp [Tg.slots])))
  | t is =>
    cases d <;> first | (cases hb; done) | skip
    rename_i ds
    simp only [bindT] at hb
    split at hb
    · rename_i hl
      cases hb
      cases rx with
      | tup z e1 q => exact ⟨_, _, rfl, e1, by rw [← q.length]; exact hl, gs_bind e q hl hv h⟩
    · cases hb
end
end Mp
-- Mp14
set_option Elab.async false
set_option linter.all false
set_option maxRecDepth 100000
set_option maxHeartbeats 2000000
namespace Mp
open PySem PySem.Spec PyProof.Rows L2

/-! ### list comprehensions -/
noncomputable def lcF (F : Fs) (cnd : En → Mem → R Bool) (e : Ex) (tg : Tg) (r : En) (x : PyData) (m2 : Mem) : R (Option PyData) := match bindT (wipeE r tg.slots) tg x with
  | some r1 => (cnd r1 m2).bind fun k m4 => match k with
    | true => (evE F e r1 m4).bind fun v m5 => (fz v m5).bind fun y m6 => .ok (some y) m6
    | false => .ok none m4
  | none => .no
section
variable {K : PySem.W.Frag} {F : Fs} {σ : L2.St} {H H0 : Hp} {m m0 : List Addr} {u u0 : Mem} {r : En} {PX : Str → List PyData → Mem → Prop}
theorem lc_sem {fl : Bool} {e : Ex} {tg : Tg} {cnd : En → Mem → R Bool} {tt : TT} {ds : List PyData} {J : L2.It} {Q : VK} {D : Addr}
    (htt : ∀ (σ : L2.St) (H : Hp) (m : List Addr) (u : Mem) (r : En) (q : Bool → Hp → Prop), Cfg K σ H m u r PX → Post PX (cnd r u) (fun b u' => ∀ (m' : List Addr) (H' : Hp), World K H' m' u' → Goes H m u H' m' u' → q b H') → tt σ H q)
    (C : Cfg K σ H m u r PX) (G : Goes H0 m0 u0 H m u) (it : ItOk K (Live m u) H ds J) (hD : H D = none)
    (p : Post PX ((lcL u.length (lcF F cnd e tg r) 0 ds (u ++ [.lst []])).bind fun _ m2 => lcE fl u.length m2) (Beh K H0 m0 u0 Q)) :
    ∃ W : Nat → Nat → Hp → Prop, (∃ m, W 0 m (upd H D (.lst []))) ∧ ∀ i m H, W i m H →
      (J.stop i H ∧ Q (.ref D) H) ∨ (J.go i H ∧ ∃ Nx : Hp → Prop, (∀ H', Nx H' → ∃ m', m' < m ∧ W (i + 1) m' H') ∧ ∀ x H', J.yld i H x H' → gOf K tg x (L2.wipe σ tg.slots) H' fun σ2 H2 => L2.wipe σ2 tg.slots = L2.wipe σ tg.slots ∧ tt σ2 H2 fun b H3 =>
        if b = true then tE F K e σ2 H3 fun y H4 => ∃ acc, H4 D = some (.lst acc) ∧ acc.length < sizeLine ∧ Nx (upd H4 D (.lst (acc ++ [y]))) else Nx H3) := by
  obtain ⟨W1, G1⟩ := C.w.al (o := .lst []) (c := .lst []) hD fun L g => ⟨Nat.zero_le _, [], upd_same, .nil⟩
  have kD : (m ++ [D])[u.length]? = some D := by rw [← C.w.len]; simp
  generalize hm1 : m ++ [D] = mm at W1 G1 kD
  generalize hH1 : upd H D (.lst []) = HH at W1 G1
  -- the invariant
  let Pv : Nat → Hp → Prop := fun i H' => ∃ m' u', World K H' m' u' ∧ Goes HH mm (u ++ [.lst []]) H' m' u' ∧ Post PX (lcL u.length (lcF F cnd e tg r) i (ds.drop i) u') (fun _ m2 => Post PX (lcE fl u.length m2) (Beh K H0 m0 u0 Q))
  have h0 : Pv 0 HH := ⟨mm, _, W1, Goes.refl _ _ _, Post.bind p⟩
  have hd : ∀ H', Pv ds.length H' → Q (.ref D) H' := by
    rintro H' ⟨m', u', W', G', q⟩
    rw [List.drop_length] at q
    have q : Post PX (lcE fl u.length u') (Beh K H0 m0 u0 Q) := q
    have eD := G'.pre _ _ kD
    unfold lcE at q
    split at q
    · rename_i ys ey
      cases fl with
      | true => exact q m' H' (.ref D) W' (G.trans (G1.trans G')) ⟨D, eD, rfl⟩
      | false =>
        have q : Beh K H0 m0 u0 Q (.d (.list ys)) (u'.take u.length) := q
        obtain ⟨z, vs, e1, rs⟩ := W'.cell _ _ _ ey eD
        obtain ⟨W2, G2⟩ := (G1.trans G').take C.w W' (Nat.le_refl _)
        obtain ⟨W3, G3, r3⟩ := W'.fz ey eD fun L g na => .lst z e1 na (rs.go g W'.lv)
        obtain ⟨W4, g4⟩ := W3.take u.length
        have et : (u'.set u.length (.frz (.list ys))).take u.length = u'.take u.length := by
          rw [List.take_set_of_le (Nat.le_refl _)]
        rw [et] at W4 g4
        exact q _ H' (.ref D) W2 (G.trans G2) (r3.go g4 W3.lv)
    · exact False.elim q
  -- a turn
  have hs : ∀ i d x H', ds[i]? = some d → ds.length ≤ sizeLine → Pv i H' → (∀ m' u', World K H' m' u' → Goes HH mm (u ++ [.lst []]) H' m' u' → Rep K (Live m' u') H' d x) →
      gOf K tg x (L2.wipe σ tg.slots) H' fun σ2 H2 => L2.wipe σ2 tg.slots = L2.wipe σ tg.slots ∧ tt σ2 H2 fun b H3 =>
        if b = true then tE F K e σ2 H3 fun y H4 => ∃ acc, H4 D = some (.lst acc) ∧ acc.length < sizeLine ∧ Pv (i + 1) (upd H4 D (.lst (acc ++ [y]))) else Pv (i + 1) H3 := by
    rintro i d x H' ed hz ⟨m', u', W', G', q⟩ hx
    have hi : i < ds.length := (List.getElem?_eq_some_iff.mp ed).1
    have edr : ds.drop i = d :: ds.drop (i + 1) := by
      rw [List.drop_eq_getElem_cons hi]
      have : ds[i] = d := (List.getElem?_eq_some_iff.mp ed).2
      rw [this]
    rw [edr] at q
    unfold lcL at q
    have rx := hx m' u' W' G'
    have en0 : RepEn K H' m' u' (wipeE r tg.slots) (L2.wipe σ tg.slots) := ((C.en.go C.w G1).go W1 G').wipe _
    unfold lcF at q
    cases hb : bindT (wipeE r tg.slots) tg d with
    | none => rw [hb] at q; exact False.elim q
    | some r1 =>
      rw [hb] at q
      refine g_bind en0 rx hb (fun i h => h) fun σ1 e1 w1 => ⟨w1.trans (wipe_wipe _ _), ?_⟩
      refine htt σ1 H' m' u' r1 _ ⟨W', e1, C.vx⟩ ?_
      cases hc : cnd r1 u' with
      | no => simp only [hc, bind_no] at q; exact False.elim q
      | ex c fs m => simp only [hc, bind_ex] at q; exact False.elim q
      | ok b u3 =>
        simp only [hc, bind_ok] at q
        intro m3 H3 W3 G3
        cases b with
        | false =>
          simp only at q
          exact ⟨m3, u3, W3, G'.trans G3, q⟩
        | true =>
          simp only at q
          refine ⟨m3, u3, r1, PX, ⟨W3, e1.go W' G3, C.vx⟩, ?_⟩
          cases hv : evE F e r1 u3 with
          | no => simp only [hv, bind_no] at q; exact False.elim q
          | ex c fs m => simp only [hv, bind_ex] at q; exact False.elim q
          | ok v u4 =>
            simp only [hv, bind_ok] at q
            intro m4 H4 y W4 G4 ry
            cases hf : fz v u4 with
            | no => simp only [hf, bind_no] at q; exact False.elim q
            | ex c fs m => simp only [hf, bind_ex] at q; exact False.elim q
            | ok w u5 =>
              simp only [hf, bind_ok] at q
              obtain ⟨W5, G5, r5⟩ := fz_ok (PX := PX) W4 ry hf
              split at q
              · rename_i acc ea
                split at q
                · rename_i hl
                  have GG : Goes HH mm (u ++ [.lst []]) H4 m4 u5 := G'.trans (G3.trans (G4.trans G5))
                  have eD := GG.pre _ _ kD
                  obtain ⟨z, vs, e6, rs⟩ := W5.cell _ _ _ ea eD
                  have hlv : vs.length < sizeLine := by rw [← rs.length]; omega
                  obtain ⟨W6, G6⟩ := W5.wr (o := .lst (vs ++ [y])) (c' := .lst (acc ++ [w])) ea eD rfl rfl fun L g => ⟨by rw [List.length_append]; show acc.length + 1 ≤ _; omega, vs ++ [y], upd_same, (rs.go g W5.lv).append (.cons (r5.go g W5.lv) .nil)⟩
                  exact ⟨vs, e6, hlv, m4, _, W6, GG.trans G6, q⟩
                · exact False.elim q
              · exact False.elim q
  obtain ⟨hz, it⟩ := it
  rcases it with ⟨a, xs, rfl, ea, na, rs⟩ | ⟨a, xs, rfl, ea, rs⟩ | ⟨lo, n, rfl, rfl⟩
  · subst hH1
    refine lc_list Pv h0 (fun i H' hi ⟨m', u', W', G', q⟩ => ?_) (fun i x H' hx pv => ?_) (fun H' pv => hd H' (by rw [rs.length]; exact pv))
    · exact .inl (.inl ((G1.trans G').gx a _ ea na).1)
    · have hi : i < ds.length := by rw [rs.length]; exact (List.getElem?_eq_some_iff.mp hx).1
      refine hs i ds[i] x H' (by simp [hi]) hz pv fun m' u' W' G' => ?_
      obtain ⟨x', h1, h2⟩ := rs.get (i := i) (d := ds[i]) (by simp [hi])
      rw [hx] at h1; cases h1
      exact h2.go (G1.trans G').gx C.w.lv
  · subst hH1
    refine lc_tup Pv h0 (fun i H' hi ⟨m', u', W', G', q⟩ => ?_) (fun i x H' hx pv => ?_) (fun H' pv => hd H' (by rw [rs.length]; exact pv))
    · exact SqT.go (G1.trans G').gx C.w.lv ea
    · have hi : i < ds.length := by rw [rs.length]; exact (List.getElem?_eq_some_iff.mp hx).1
      refine hs i ds[i] x H' (by simp [hi]) hz pv fun m' u' W' G' => ?_
      obtain ⟨x', h1, h2⟩ := rs.get (i := i) (d := ds[i]) (by simp [hi])
      rw [hx] at h1; cases h1
      exact h2.go (G1.trans G').gx C.w.lv
  · subst hH1
    have hn : ((List.range n).map fun (i : Nat) => PyData.int (lo + (i : Int))).length = n := by simp
    refine lc_range Pv h0 (fun i H' hi pv => ?_) (fun H' pv => hd H' (by rw [hn]; exact pv))
    exact hs i (.int (lo + i)) (.int (lo + i)) H' (by simp [hi]) hz pv fun m' u' W' G' => .int _
end
/-- over a list that lives: each turn it is still the same -/
theorem lcv_sem {K : PySem.W.Frag} {F : Fs} {σ : L2.St} {H H0 : Hp} {m m0 : List Addr} {u u0 : Mem} {r : En} {PX : Str → List PyData → Mem → Prop} {e : Ex} {tg : Tg} {ds : List PyData} {n : Nat} {a : Addr} {Q : VK} {D : Addr}
    (C : Cfg K σ H m u r PX) (G : Goes H0 m0 u0 H m u) (hn : u[n]? = some (.lst ds)) (ha : m[n]? = some a) (hD : H D = none)
    (p : Post PX ((lcL u.length (fun x m2 => held n ds m2 (lcF F (fun _ m => .ok true m) e tg r x m2)) 0 ds (u ++ [.lst []])).bind fun _ m2 => held n ds m2 (lcE false u.length m2)) (Beh K H0 m0 u0 Q)) :
    ∃ W : Nat → Nat → Hp → Prop, (∃ m, W 0 m (upd H D (.lst []))) ∧ ∀ i m H, W i m H →
      ((Itl K a).stop i H ∧ Q (.ref D) H) ∨ ((Itl K a).go i H ∧ ∃ Nx : Hp → Prop, (∀ H', Nx H' → ∃ m', m' < m ∧ W (i + 1) m' H') ∧ ∀ x H', (Itl K a).yld i H x H' → gOf K tg x (L2.wipe σ tg.slots) H' fun σ2 H2 => L2.wipe σ2 tg.slots = L2.wipe σ tg.slots ∧ tYes σ2 H2 fun b H3 =>
        if b = true then tE F K e σ2 H3 fun y H4 => ∃ acc, H4 D = some (.lst acc) ∧ acc.length < sizeLine ∧ Nx (upd H4 D (.lst (acc ++ [y]))) else Nx H3) := by
  obtain ⟨W1, G1⟩ := C.w.al (o := .lst []) (c := .lst []) hD fun L g => ⟨Nat.zero_le _, [], upd_same, .nil⟩
  have kD : (m ++ [D])[u.length]? = some D := by rw [← C.w.len]; simp
  have kA : (m ++ [D])[n]? = some a := by rw [List.getElem?_append_left (List.getElem?_eq_some_iff.mp ha).1]; exact ha
  generalize hm1 : m ++ [D] = mm at W1 G1 kD kA
  generalize hH1 : upd H D (.lst []) = HH at W1 G1
  let Pv : Nat → Hp → Prop := fun i H' => ∃ m' u', World K H' m' u' ∧ Goes HH mm (u ++ [.lst []]) H' m' u' ∧ Post PX (lcL u.length (fun x m2 => held n ds m2 (lcF F (fun _ m => .ok true m) e tg r x m2)) i (ds.drop i) u') (fun _ m2 => Post PX (held n ds m2 (lcE false u.length m2)) (Beh K H0 m0 u0 Q))
  refine ⟨fun i k H' => k = ds.length - i ∧ i ≤ ds.length ∧ Pv i H', ⟨ds.length, by simp, Nat.zero_le _, mm, _, W1, Goes.refl _ _ _, Post.bind p⟩, ?_⟩
  rintro i k H' ⟨rfl, hi, m', u', W', G', q⟩
  have eA := G'.pre _ _ kA
  have eD := G'.pre _ _ kD
  by_cases hlt : i < ds.length
  · have edr : ds.drop i = ds[i] :: ds.drop (i + 1) := List.drop_eq_getElem_cons hlt
    rw [edr] at q
    unfold lcL held at q
    by_cases hh : u'[n]? = some (.lst ds)
    · rw [if_pos hh] at q
      obtain ⟨z, zs, e1, rs⟩ := W'.cell _ _ _ hh eA
      have sq : SqL K H' a zs := .inl (.inl e1)
      obtain ⟨x0, hx0, rx⟩ := rs.get (i := i) (d := ds[i]) (by simp [hlt])
      refine .inr ⟨⟨zs, x0, sq, hx0⟩, Pv (i + 1), fun H2 p2 => ⟨ds.length - (i + 1), by omega, rfl, hlt, p2⟩, fun x H2 y => ?_⟩
      obtain ⟨eH, y⟩ := y
      subst eH
      have hx := y zs sq
      rw [hx0] at hx
      cases hx
      have en0 : RepEn K H2 m' u' (wipeE r tg.slots) (L2.wipe σ tg.slots) := ((C.en.go C.w G1).go W1 G').wipe _
      unfold lcF at q
      cases hb : bindT (wipeE r tg.slots) tg ds[i] with
      | none => rw [hb] at q; exact False.elim q
      | some r1 =>
        rw [hb] at q
        refine g_bind en0 rx hb (fun i h => h) fun σ1 e1 w1 => ⟨w1.trans (wipe_wipe _ _), ?_⟩
        show tE F K e σ1 H2 _
        refine ⟨m', u', r1, PX, ⟨W', e1, C.vx⟩, ?_⟩
        simp only [bind_ok] at q
        cases hv : evE F e r1 u' with
        | no => simp only [hv, bind_no] at q; exact False.elim q
        | ex c fs m => simp only [hv, bind_ex] at q; exact False.elim q
        | ok v u4 =>
          simp only [hv, bind_ok] at q
          intro m4 H4 y W4 G4 ry
          cases hf : fz v u4 with
          | no => simp only [hf, bind_no] at q; exact False.elim q
          | ex c fs m => simp only [hf, bind_ex] at q; exact False.elim q
          | ok w u5 =>
            simp only [hf, bind_ok] at q
            obtain ⟨W5, G5, r5⟩ := fz_ok (PX := PX) W4 ry hf
            split at q
            · rename_i acc ea
              split at q
              · rename_i hl
                have GG : Goes HH mm (u ++ [.lst []]) H4 m4 u5 := G'.trans (G4.trans G5)
                have eD := GG.pre _ _ kD
                obtain ⟨z, vs, e6, rs⟩ := W5.cell _ _ _ ea eD
                have hlv : vs.length < sizeLine := by rw [← rs.length]; omega
                obtain ⟨W6, G6⟩ := W5.wr (o := .lst (vs ++ [y])) (c' := .lst (acc ++ [w])) ea eD rfl rfl fun L g => ⟨by rw [List.length_append]; show acc.length + 1 ≤ _; omega, vs ++ [y], upd_same, (rs.go g W5.lv).append (.cons (r5.go g W5.lv) .nil)⟩
                exact ⟨vs, e6, hlv, m4, _, W6, GG.trans G6, q⟩
              · exact False.elim q
            · exact False.elim q
    · rw [if_neg hh] at q
      exact False.elim q
  · have ei : i = ds.length := by omega
    subst ei
    rw [List.drop_length] at q
    have q : Post PX (held n ds u' (lcE false u.length u')) (Beh K H0 m0 u0 Q) := q
    unfold held at q
    by_cases hh : u'[n]? = some (.lst ds)
    · rw [if_pos hh] at q
      obtain ⟨z, zs, e1, rs⟩ := W'.cell _ _ _ hh eA
      refine .inl ⟨⟨zs, .inl (.inl e1), by rw [← rs.length]; exact Nat.le_refl _⟩, ?_⟩
      unfold lcE at q
      split at q
      · rename_i ys ey
        have q : Beh K H0 m0 u0 Q (.d (.list ys)) (u'.take u.length) := q
        obtain ⟨z, vs, e1, rs⟩ := W'.cell _ _ _ ey eD
        obtain ⟨W2, G2⟩ := (G1.trans G').take C.w W' (Nat.le_refl _)
        obtain ⟨W3, G3, r3⟩ := W'.fz ey eD fun L g na => .lst z e1 na (rs.go g W'.lv)
        obtain ⟨W4, g4⟩ := W3.take u.length
        have et : (u'.set u.length (.frz (.list ys))).take u.length = u'.take u.length := by
          rw [List.take_set_of_le (Nat.le_refl _)]
        rw [et] at W4 g4
        exact q _ H' (.ref D) W2 (G.trans G2) (r3.go g4 W3.lv)
      · exact False.elim q
    · rw [if_neg hh] at q
      exact False.elim q
theorem lcv_read {X : Cx} {F : Fs} {e : Ex} {tg : Tg} {i : Nat} : ∀ σ H Q, tE F X.K (.lcv e tg i) σ H Q → tLc (iList X.K (tE F X.K (.var i))) (gOf X.K tg) tYes (tE F X.K e) tg.slots σ H Q := by
  rintro σ H Q ⟨m, u, r, PX, C, p⟩
  show ∃ m u r PX, Cfg X.K σ H m u r PX ∧ Post PX (evE F (.var i) r u) (Beh X.K H m u _)
  refine ⟨m, u, r, PX, C, ?_⟩
  have p : Post PX (match r[i]? with
    | some (some (.r n)) => match u[n]? with
      | some (.lst xs) => (lcL u.length (fun x m2 => held n xs m2 (match bindT (wipeE r tg.slots) tg x with
        | some r1 => (evE F e r1 m2).bind fun v m3 => (fz v m3).bind fun y m4 => .ok (some y) m4
        | none => .no)) 0 xs (u ++ [.lst []])).bind fun _ m2 => held n xs m2 (lcE false u.length m2)
      | _ => .no
    | _ => .no) (Beh X.K H m u Q) := p
  show Post PX (match r[i]? with | some (some v) => R.ok v u | _ => .no) _
  split at p
  · rename_i n hi
    rw [hi]
    split at p
    · rename_i xs hn
      intro m1 H1 x W1 G1 rx
      obtain ⟨a, ha, rfl⟩ := rx
      obtain ⟨z, zs, e1, rs⟩ := W1.cell _ _ _ hn ha
      exact ⟨a, rfl, ⟨zs, .inl (.inl e1)⟩, fun D hD => lcv_sem (C.go W1 G1) G1 hn ha hD p⟩
    · exact False.elim p
  · exact False.elim p
section
variable {X : Cx} {F : Fs} {it : Mp.It} {e c : Ex} {tg : Tg}
theorem lc_read {fl : Bool} : ∀ σ H Q, tE F X.K (.lc fl e tg it) σ H Q → tLc (tI F X.K it) (gOf X.K tg) tYes (tE F X.K e) tg.slots σ H Q := by
  rintro σ H Q ⟨m, u, r, PX, C, p⟩
  refine ⟨m, u, r, PX, C, (Post.bind p).mono fun ds u1 p1 m1 H1 J W1 G1 it D hD => ?_⟩
  exact lc_sem (cnd := fun r m => .ok true m) (fun σ H m u r q C p => p m H C.w (Goes.refl _ _ _)) (C.go W1 G1) G1 it hD p1
theorem lci_read {fl : Bool} : ∀ σ H Q, tE F X.K (.lci fl e tg it c) σ H Q → tLc (tI F X.K it) (gOf X.K tg) (tT F X.K c) (tE F X.K e) tg.slots σ H Q := by
  rintro σ H Q ⟨m, u, r, PX, C, p⟩
  refine ⟨m, u, r, PX, C, (Post.bind p).mono fun ds u1 p1 m1 H1 J W1 G1 it D hD => ?_⟩
  refine lc_sem (cnd := fun r m => evT F c r m) (fl := fl) (fun σ H m u r q C p => ⟨m, u, r, PX, C, p⟩) (C.go W1 G1) G1 it hD ?_
  refine Eq.subst (motive := fun f => Post PX ((lcL u1.length f 0 ds (u1 ++ [Cell.lst []])).bind fun _ m2 => lcE fl u1.length m2) (Beh X.K H m u Q)) ?_ p1
  funext x m2
  unfold lcF evT
  cases bindT (wipeE r tg.slots) tg x with
  | none => rfl
  | some r1 =>
    simp only [bind_assoc']
    all_goals
      cases h : evE F c r1 m2 with
      | no => rfl
      | ex a b d => rfl
      | ok v m3 =>
        simp only [bind_ok]
        cases h2 : asB v m3 with
        | no => rfl
        | ex a b d => rfl
        | ok b m4 => cases b <;> rfl
end
end Mp
-- Mp15
set_option Elab.async false
set_option linter.all false
set_option maxRecDepth 100000
set_option maxHeartbeats 4000000
namespace Mp
open PySem PySem.Spec PyProof.Rows L2

/-! ## the check is right: expressions -/
section
variable {k : Kx} {N : List Str} {n : Nat}
theorem Cn.blk {sc scope : Scope} {X : Cx} (C : Cn k N n sc X) (s : Shared) (H : Hp) (D : Addr) (cl : List (Str × Addr)) (fp : List Addr) : Cn k N n (relS scope sc) (X.blk s H scope (compEnvC scope cl D X.env) fp) := by
  refine ⟨C.hN, C.nd, ?_, C.calm, C.room, C.free, C.fns⟩
  show relS scope X.env.scope = _
  rw [C.hsc]
theorem Cn.gl {sc : Scope} {X : Cx} (C : Cn k N n sc X) {g : Str} (h : glb sc g = true) : Gl X g := by
  show X.env.scope.names.lookup g = _
  rw [C.hsc]
  exact (glb_of h).1
theorem Cn.uU {sc : Scope} {X : Cx} (C : Cn k N n sc X) : X.A.units + 64 < cLine := by have := C.room.un; omega
theorem Cn.u1 {sc : Scope} {X : Cx} (C : Cn k N n sc X) : X.A.units + 1 < cLine := by have := C.room.un; omega
theorem loc_blk {sc scope : Scope} {own : List (Str × Nat)} (h : lcB sc scope own = true) : ∀ p ∈ own, Loc (relS scope sc) p.1 ∧ ((scope.names.lookup p.1 == some .cell) = true ∨ (relS scope sc).names.lookup p.1 = some .local) := by
  intro p hp
  have q := List.all_eq_true.mp h p hp
  split at q
  · rename_i e
    have e2 := lookup_relS_keep (sc := sc) (by decide) e
    exact ⟨.inl e2, .inr e2⟩
  · rename_i e
    have e2 := lookup_relS_keep (sc := sc) (by decide) e
    exact ⟨.inr e2, .inl (by rw [e]; rfl)⟩
  · cases q
theorem own_slots (N : List Str) (t : Tg) : (ownOf N t).map (·.2) = t.slots := by
  cases t with
  | v i => rfl
  | t is => simp [ownOf, Tg.slots, Function.comp_def]
theorem chkL_len : ∀ {es : Exs} {sc : Scope} {xs : List Expr}, chkL k N es sc xs = true → es.len = xs.length ∧ xs.all nostar = true
  | .nil, _, [], _ => ⟨rfl, rfl⟩
  | .cons e es, sc, x :: xs, h => by
    have h : (nostar x && chkE k N e sc x && chkL k N es sc xs) = true := h
    simp only [Bool.and_eq_true] at h
    obtain ⟨a, b⟩ := chkL_len h.2
    exact ⟨by simp [Exs.len, a], by rw [List.all_cons, h.1.1, b]; rfl⟩
theorem keysB_len : ∀ {ks : List Str} {es : List (Option Expr)}, keysB ks es = true → ks.length = es.length ∧ es.all (·.isSome) = true
  | [], [], _ => ⟨rfl, rfl⟩
  | q :: ks, some (.Constant (.str x) _ _) :: es, h => by
    have h : (decide (x = q) && keysB ks es) = true := h
    rw [Bool.and_eq_true] at h
    obtain ⟨a, b⟩ := keysB_len h.2
    exact ⟨by simp [a], by rw [List.all_cons, b]; rfl⟩
theorem inv_var {i : Nat} {sc : Scope} {x : Expr} (h : chkE k N (.var i) sc x = true) : ∃ y pos, x = .Name y pos ∧ (decide (N[i]? = some y) && vis sc y && okN y) = true := by
  cases x <;> first | (cases h; done) | exact ⟨_, _, rfl, h⟩
theorem inv_cst {c : Ct} {sc : Scope} {x : Expr} (h : chkE k N (.cst c) sc x = true) : ∃ v j pos, x = .Constant v j pos ∧ cstB c v = true := by
  cases x <;> first | (cases h; done) | exact ⟨_, _, _, rfl, h⟩
theorem inv_glo {y : Str} {d : PyData} {sc : Scope} {x : Expr} (h : chkE k N (.glo y d) sc x = true) : False := by
  cases x <;> cases h
theorem inv_bin {o : Bo} {a b : Ex} {sc : Scope} {x : Expr} (h : chkE k N (.bin o a b) sc x = true) : ∃ u op v pos, x = .BinOp u op v pos ∧ (bopB o op && chkE k N a sc u && chkE k N b sc v) = true := by
  cases x <;> first | (cases h; done) | exact ⟨_, _, _, _, rfl, h⟩
theorem inv_neg {a : Ex} {sc : Scope} {x : Expr} (h : chkE k N (.neg a) sc x = true) : ∃ u pos, x = .UnaryOp .USub u pos ∧ chkE k N a sc u = true := by
  cases x <;> first | (cases h; done) | skip
  rename_i op x pos
  cases op <;> first | (cases h; done) | exact ⟨_, _, rfl, h⟩
theorem inv_not {a : Ex} {sc : Scope} {x : Expr} (h : chkE k N (.not a) sc x = true) : ∃ u pos, x = .UnaryOp .Not u pos ∧ (tst a && chkE k N a sc u) = true := by
  cases x <;> first | (cases h; done) | skip
  rename_i op x pos
  cases op <;> first | (cases h; done) | exact ⟨_, _, rfl, h⟩
theorem inv_cmp {o : Co} {a b : Ex} {sc : Scope} {x : Expr} (h : chkE k N (.cmp o a b) sc x = true) : ∃ u op v pos, x = .Compare u [op] [v] pos ∧ (copB o op && noSet v && chkE k N a sc u && chkE k N b sc v) = true := by
  cases x <;> first | (cases h; done) | skip
  rename_i x ops ys pos
  rcases ops with _ | ⟨op, _ | ⟨op2, ops⟩⟩ <;> rcases ys with _ | ⟨y, _ | ⟨z, ys⟩⟩ <;> first | (cases h; done) | exact ⟨_, _, _, _, rfl, h⟩
theorem inv_chn {o o' : Co} {a b c : Ex} {sc : Scope} {x : Expr} (h : chkE k N (.chn o o' a b c) sc x = true) : ∃ u op op2 v w pos, x = .Compare u [op, op2] [v, w] pos ∧ (copB o op && copB o' op2 && noSet w && chkE k N a sc u && chkE k N b sc v && chkE k N c sc w) = true := by
  cases x <;> first | (cases h; done) | skip
  rename_i x ops ys pos
  rcases ops with _ | ⟨op, _ | ⟨op2, _ | ⟨op3, ops⟩⟩⟩ <;> rcases ys with _ | ⟨y, _ | ⟨z, _ | ⟨z2, ys⟩⟩⟩ <;> first | (cases h; done) | exact ⟨_, _, _, _, _, _, rfl, h⟩
theorem inv_and {es : Exs} {sc : Scope} {x : Expr} (h : chkE k N (.and es) sc x = true) : ∃ xs pos, x = .BoolOp .And xs pos ∧ chkA k N es sc xs = true := by
  cases x <;> first | (cases h; done) | skip
  rename_i op xs pos
  cases op <;> first | (cases h; done) | exact ⟨_, _, rfl, h⟩
theorem inv_or {es : Exs} {sc : Scope} {x : Expr} (h : chkE k N (.or es) sc x = true) : ∃ xs pos, x = .BoolOp .Or xs pos ∧ chkA k N es sc xs = true := by
  cases x <;> first | (cases h; done) | skip
  rename_i op xs pos
  cases op <;> first | (cases h; done) | exact ⟨_, _, rfl, h⟩
theorem inv_ite {c a b : Ex} {sc : Scope} {x : Expr} (h : chkE k N (.ite c a b) sc x = true) : ∃ u v w pos, x = .IfExp u v w pos ∧ (tst c && chkE k N c sc u && chkE k N a sc v && chkE k N b sc w) = true := by
  cases x <;> first | (cases h; done) | exact ⟨_, _, _, _, rfl, h⟩
theorem inv_tup {es : Exs} {sc : Scope} {x : Expr} (h : chkE k N (.tup es) sc x = true) : ∃ xs j pos, x = .Tuple xs j pos ∧ (decide (xs.length ≤ 1000) && chkL k N es sc xs) = true := by
  cases x <;> first | (cases h; done) | exact ⟨_, _, _, rfl, h⟩
theorem inv_lst {fl : Bool} {es : Exs} {sc : Scope} {x : Expr} (h : chkE k N (.lst fl es) sc x = true) : ∃ xs pos, x = .List xs pos ∧ (decide (xs.length ≤ 1000) && chkL k N es sc xs) = true := by
  cases x <;> first | (cases h; done) | exact ⟨_, _, rfl, h⟩
theorem inv_dic0 {es : Exs} {sc : Scope} {x : Expr} (h : chkE k N (.dic [] es) sc x = true) : ∃ pos, es = .nil ∧ x = .Dict [] [] pos := by
  cases es with
  | nil =>
    cases x <;> first | (cases h; done) | skip
    rename_i keys vals pos
    cases keys <;> cases vals <;> first | (cases h; done) | exact ⟨_, rfl, rfl⟩
  | cons e es => cases x <;> cases h
theorem inv_dic {k1 : Str} {ks : List Str} {es : Exs} {sc : Scope} {x : Expr} (h : chkE k N (.dic (k1 :: ks) es) sc x = true) : ∃ key keys vals pos, x = .Dict (key :: keys) vals pos ∧ (decide ((key :: keys).length ≤ 15) && decide ((key :: keys).length = vals.length) && decide ((k1 :: ks).Nodup) && keysB (k1 :: ks) (key :: keys) && chkL k N es sc vals) = true := by
  cases x <;> first | (cases h; done) | skip
  rename_i keys vals pos
  cases keys <;> first | (cases h; done) | exact ⟨_, _, _, _, rfl, h⟩
theorem inv_idx {a b : Ex} {sc : Scope} {x : Expr} (h : chkE k N (.idx a b) sc x = true) : ∃ u v pos, x = .Subscript u v pos ∧ (noSl v && chkE k N a sc u && chkE k N b sc v) = true := by
  cases x <;> first | (cases h; done) | exact ⟨_, _, _, rfl, h⟩
theorem inv_slf {a b : Ex} {sc : Scope} {x : Expr} (h : chkE k N (.slf a b) sc x = true) : ∃ u v p pos, x = .Subscript u (.Slice (some v) none none p) pos ∧ (chkE k N a sc u && chkE k N b sc v) = true := by
  cases x <;> first | (cases h; done) | skip
  rename_i x y pos
  cases y <;> first | (cases h; done) | skip
  rename_i l u s p2
  cases l <;> cases u <;> cases s <;> first | (cases h; done) | exact ⟨_, _, _, _, rfl, h⟩
theorem inv_slt {a b : Ex} {sc : Scope} {x : Expr} (h : chkE k N (.slt a b) sc x = true) : ∃ u v p pos, x = .Subscript u (.Slice none (some v) none p) pos ∧ (chkE k N a sc u && chkE k N b sc v) = true := by
  cases x <;> first | (cases h; done) | skip
  rename_i x y pos
  cases y <;> first | (cases h; done) | skip
  rename_i l u s p2
  cases l <;> cases u <;> cases s <;> first | (cases h; done) | exact ⟨_, _, _, _, rfl, h⟩
theorem inv_sl2 {a b c : Ex} {sc : Scope} {x : Expr} (h : chkE k N (.sl2 a b c) sc x = true) : ∃ u v w p pos, x = .Subscript u (.Slice (some v) (some w) none p) pos ∧ (chkE k N a sc u && chkE k N b sc v && chkE k N c sc w) = true := by
  cases x <;> first | (cases h; done) | skip
  rename_i x y pos
  cases y <;> first | (cases h; done) | skip
  rename_i l u s p2
  cases l <;> cases u <;> cases s <;> first | (cases h; done) | exact ⟨_, _, _, _, _, rfl, h⟩
theorem inv_call {f : Str} {es : Exs} {sc : Scope} {x : Expr} (h : chkE k N (.call f es) sc x = true) : ∃ g gp xs pos, x = .Call (.Name g gp) xs [] pos ∧ ((match k.T f with
      | some fn => decide (fn.py = g) && decide (xs.length = fn.np)
      | none => false) && k.Pr f && glb sc g && chkL k N es sc xs) = true := by
  cases x <;> first | (cases h; done) | skip
  rename_i g xs kws pos
  cases g <;> first | (cases h; done) | skip
  cases kws <;> first | (cases h; done) | exact ⟨_, _, _, _, rfl, h⟩
theorem inv_isi {a : Ex} {t : Ty} {sc : Scope} {x : Expr} (h : chkE k N (.isi a t) sc x = true) : ∃ g gp u y yp pos, x = .Call (.Name g gp) [u, .Name y yp] [] pos ∧ (decide (g = "isinstance") && glb sc g && k.Fr g && decide (y = Str.ofString (tyN t)) && glb sc y && k.Fr y && nostar u && chkE k N a sc u) = true := by
  cases x <;> first | (cases h; done) | skip
  rename_i g xs kws pos
  cases g <;> first | (cases h; done) | skip
  rename_i g gp
  rcases xs with _ | ⟨x, _ | ⟨y, _ | ⟨z, xs⟩⟩⟩ <;> first | (cases h; done) | skip
  · cases y <;> first | (cases h; done) | skip
    cases kws <;> first | (cases h; done) | exact ⟨_, _, _, _, _, _, rfl, h⟩
  · cases y <;> (cases h; done)
theorem inv_blt {fl : Bool} {b : Bt} {a : Ex} {sc : Scope} {x : Expr} (h : chkE k N (.blt fl b a) sc x = true) : ∃ g gp u pos, x = .Call (.Name g gp) [u] [] pos ∧ (decide (g = btN b) && glb sc g && k.Fr g && nostar u && chkE k N a sc u) = true := by
  cases x <;> first | (cases h; done) | skip
  rename_i g xs kws pos
  cases g <;> first | (cases h; done) | skip
  rename_i g gp
  rcases xs with _ | ⟨x, _ | ⟨y, xs⟩⟩ <;> first | (cases h; done) | skip
  cases kws <;> first | (cases h; done) | exact ⟨_, _, _, _, rfl, h⟩
theorem inv_mth {t : Mt} {o : Ex} {es : Exs} {sc : Scope} {x : Expr} (h : chkE k N (.mth t o es) sc x = true) : ∃ u g apos xs pos, x = .Call (.Attribute u g apos) xs [] pos ∧ (decide (g = mtN t) && noC0 u && (apos.endLine == pos.line) && decide (xs.length = mtA t) && chkE k N o sc u && chkL k N es sc xs) = true := by
  cases x <;> first | (cases h; done) | skip
  rename_i g xs kws pos
  cases g <;> first | (cases h; done) | skip
  cases kws <;> first | (cases h; done) | exact ⟨_, _, _, _, _, rfl, h⟩
theorem inv_lc {fl : Bool} {e : Ex} {tg : Tg} {it : Mp.It} {sc : Scope} {x : Expr} (h : chkE k N (.lc fl e tg it) sc x = true) : ∃ u t i a scope pos, x = .ListComp u [⟨t, i, [], a⟩] scope pos ∧ (decide (a = 0) && tgB N tg t (ownOf N tg) && lcB sc scope (ownOf N tg) && blkC N sc scope (ownOf N tg) && chkI k N it sc i && chkE k N e (relS scope sc) u) = true := by
  cases x <;> first | (cases h; done) | skip
  rename_i x gs scope pos
  rcases gs with _ | ⟨⟨t, i, ifs, a⟩, gs⟩
  · cases h
  · cases ifs with
    | nil => cases gs <;> first | (cases h; done) | exact ⟨_, _, _, _, _, _, rfl, h⟩
    | cons y ifs => cases gs <;> (cases h; done)
theorem inv_lci {fl : Bool} {e c : Ex} {tg : Tg} {it : Mp.It} {sc : Scope} {x : Expr} (h : chkE k N (.lci fl e tg it c) sc x = true) : ∃ u t i y a scope pos, x = .ListComp u [⟨t, i, [y], a⟩] scope pos ∧ (decide (a = 0) && tgB N tg t (ownOf N tg) && lcB sc scope (ownOf N tg) && blkC N sc scope (ownOf N tg) && chkI k N it sc i && tst c && chkE k N c (relS scope sc) y && chkE k N e (relS scope sc) u) = true := by
  cases x <;> first | (cases h; done) | skip
  rename_i x gs scope pos
  rcases gs with _ | ⟨⟨t, i, ifs, a⟩, gs⟩
  · cases h
  · rcases ifs with _ | ⟨y, _ | ⟨y2, ifs⟩⟩
    · cases gs <;> (cases h; done)
    · cases gs <;> first | (cases h; done) | exact ⟨_, _, _, _, _, _, _, rfl, h⟩
    · cases gs <;> (cases h; done)
variable (k N n) in
def M1 (e : Ex) : Prop := ∀ (sc : Scope) (x : Expr) (X : Cx), chkE k N e sc x = true → Cn k N n sc X → PE X x (tE (callN k.T n) X.K e) ∧ (tst e = true → PT X x (tT (callN k.T n) X.K e))
variable (k N n) in
def M2 (es : Exs) : Prop := ∀ (sc : Scope) (X : Cx), Cn k N n sc X → (∀ xs, chkL k N es sc xs = true → PA X xs (tL (callN k.T n) X.K es)) ∧
  (∀ ks keys xs pos, keys.length = xs.length → keysB ks keys = true → chkL k N es sc xs = true → PPs X pos keys xs (trsOf (callN k.T n) X.K ks es)) ∧
  (∀ xs pos, chkA k N es sc xs = true → (PE X (.BoolOp .And xs pos) (tAn (callN k.T n) X.K es) ∧ PE X (.BoolOp .Or xs pos) (tOr' (callN k.T n) X.K es)) ∧ PW X (.BoolOp .And xs pos) (tAnT (callN k.T n) X.K es) ∧ PW X (.BoolOp .Or xs pos) (tOrT (callN k.T n) X.K es))
variable (k N n) in
def M3 (it : Mp.It) : Prop := ∀ (sc : Scope) (tg x : Expr) (X : Cx), chkI k N it sc x = true → Cn k N n sc X → PI X tg x (tI (callN k.T n) X.K it)
theorem c_var (i : Nat) : M1 k N n (.var i) := by
  intro sc x X h C
  replace h := inv_var h
  obtain ⟨y, pos, rfl, h⟩ := h
  simp only [Bool.and_eq_true, decide_eq_true_eq] at h
  have q : PE X (.Name y pos) (tE (callN k.T n) X.K (.var i)) := se_var (by rw [C.hN]; exact h.1.1) (by rw [C.hsc]; exact vis_of h.1.2) h.2
  exact ⟨q, fun _ => st_val q fun _ => rfl⟩
theorem c_cst (c : Ct) : M1 k N n (.cst c) := by
  intro sc x X h C
  replace h := inv_cst h
  obtain ⟨v, j, pos, rfl, h⟩ := h
  have q : PE X (.Constant v j pos) (tE (callN k.T n) X.K (.cst c)) := se_cst h
  exact ⟨q, fun _ => st_val q fun _ => rfl⟩
theorem c_glo (y : Str) (d : PyData) : M1 k N n (.glo y d) := fun sc x X h C => (inv_glo h).elim
theorem c_bin (o : Bo) (a b : Ex) (iha : M1 k N n a) (ihb : M1 k N n b) : M1 k N n (.bin o a b) := by
  intro sc x X h C
  replace h := inv_bin h
  obtain ⟨u, op, v, pos, rfl, h⟩ := h
  simp only [Bool.and_eq_true] at h
  rw [bopB_eq h.1.1]
  have q := se_bin (o := o) (pos := pos) (iha sc u X h.1.2 C).1 (ihb sc v X h.2 C).1
  exact ⟨q, fun _ => st_val q fun _ => rfl⟩
theorem c_neg (a : Ex) (iha : M1 k N n a) : M1 k N n (.neg a) := by
  intro sc x X h C
  replace h := inv_neg h
  obtain ⟨u, pos, rfl, h⟩ := h
  have q := se_neg (pos := pos) (iha sc u X h C).1
  exact ⟨q, fun _ => st_val q fun _ => rfl⟩
theorem c_not (a : Ex) (iha : M1 k N n a) : M1 k N n (.not a) := by
  intro sc x X h C
  replace h := inv_not h
  obtain ⟨u, pos, rfl, h⟩ := h
  rw [Bool.and_eq_true] at h
  obtain ⟨p, q⟩ := iha sc u X h.2 C
  exact ⟨se_not p, fun _ => st_not (q h.1)⟩
theorem c_cmp (o : Co) (a b : Ex) (iha : M1 k N n a) (ihb : M1 k N n b) : M1 k N n (.cmp o a b) := by
  intro sc x X h C
  replace h := inv_cmp h
  obtain ⟨u, op, v, pos, rfl, h⟩ := h
  simp only [Bool.and_eq_true] at h
  rw [copB_eq h.1.1.1]
  have p := (iha sc u X h.1.2 C).1
  have q := (ihb sc v X h.2 C).1
  exact ⟨se_cmp C.uU p q h.1.1.2, fun _ => st_cmp C.uU p q h.1.1.2⟩
theorem c_chn (o o' : Co) (a b c : Ex) (iha : M1 k N n a) (ihb : M1 k N n b) (ihc : M1 k N n c) : M1 k N n (.chn o o' a b c) := by
  intro sc x X h C
  replace h := inv_chn h
  obtain ⟨u, op, op2, v, w, pos, rfl, h⟩ := h
  simp only [Bool.and_eq_true] at h
  obtain ⟨⟨⟨⟨⟨h1, h2⟩, h3⟩, h4⟩, h5⟩, h6⟩ := h
  rw [copB_eq h1, copB_eq h2]
  have p := (iha sc u X h4 C).1
  have q := (ihb sc v X h5 C).1
  have r := (ihc sc w X h6 C).1
  exact ⟨se_chn C.uU p q r h3, fun _ => st_chn C.uU p q r h3⟩
theorem c_and (es : Exs) (ih : M2 k N n es) : M1 k N n (.and es) := by
  intro sc x X h C
  replace h := inv_and h
  obtain ⟨xs, pos, rfl, h⟩ := h
  obtain ⟨⟨a, b⟩, c, d⟩ := (ih sc X C).2.2 xs pos h
  exact ⟨a, fun _ => c.pt⟩
theorem c_or (es : Exs) (ih : M2 k N n es) : M1 k N n (.or es) := by
  intro sc x X h C
  replace h := inv_or h
  obtain ⟨xs, pos, rfl, h⟩ := h
  obtain ⟨⟨a, b⟩, c, d⟩ := (ih sc X C).2.2 xs pos h
  exact ⟨b, fun _ => d.pt⟩
theorem c_ite (c a b : Ex) (ihc : M1 k N n c) (iha : M1 k N n a) (ihb : M1 k N n b) : M1 k N n (.ite c a b) := by
  intro sc x X h C
  replace h := inv_ite h
  obtain ⟨u, v, w, pos, rfl, h⟩ := h
  simp only [Bool.and_eq_true] at h
  exact ⟨se_ite ((ihc sc u X h.1.1.2 C).2 h.1.1.1) (iha sc v X h.1.2 C).1 (ihb sc w X h.2 C).1, fun z => by cases z⟩
theorem c_tup (es : Exs) (ih : M2 k N n es) : M1 k N n (.tup es) := by
  intro sc x X h C
  replace h := inv_tup h
  obtain ⟨xs, j, pos, rfl, h⟩ := h
  simp only [Bool.and_eq_true, decide_eq_true_eq] at h
  have q := se_tup (k := j) (pos := pos) ((ih sc X C).1 xs h.2) (by rw [(chkL_len h.2).1]; exact Nat.le_trans h.1 (by decide))
  exact ⟨q, fun _ => st_val q fun _ => rfl⟩
theorem c_lst (fl : Bool) (es : Exs) (ih : M2 k N n es) : M1 k N n (.lst fl es) := by
  intro sc x X h C
  replace h := inv_lst h
  obtain ⟨xs, pos, rfl, h⟩ := h
  simp only [Bool.and_eq_true, decide_eq_true_eq] at h
  have q := se_lst (fl := fl) (pos := pos) ((ih sc X C).1 xs h.2) (by rw [(chkL_len h.2).1]; exact Nat.le_trans h.1 (by decide))
  exact ⟨q, fun _ => st_val q fun _ => rfl⟩
theorem c_dic (ks : List Str) (es : Exs) (ih : M2 k N n es) : M1 k N n (.dic ks es) := by
  intro sc x X h C
  cases ks with
  | nil =>
    obtain ⟨pos, rfl, rfl⟩ := inv_dic0 h
    have q : PE X (.Dict [] [] pos) (tE (callN k.T n) X.K (.dic [] .nil)) := se_dic0
    exact ⟨q, fun _ => st_val q fun _ => rfl⟩
  | cons k1 ks =>
    replace h := inv_dic h
    obtain ⟨key, keys, vals, pos, rfl, h⟩ := h
    simp only [Bool.and_eq_true, decide_eq_true_eq] at h
    obtain ⟨⟨⟨⟨h1, h2⟩, h3⟩, h4⟩, h5⟩ := h
    obtain ⟨l1, l2⟩ := keysB_len h4
    have q := se_dic ((ih sc X C).2.1 (k1 :: ks) (key :: keys) vals pos h2 h4 h5) l2 h2 (by simp) h1 h3 (by rw [l1, h2, (chkL_len h5).1]) l1
    exact ⟨q, fun _ => st_val q fun _ => rfl⟩
theorem c_idx (a b : Ex) (iha : M1 k N n a) (ihb : M1 k N n b) : M1 k N n (.idx a b) := by
  intro sc x X h C
  replace h := inv_idx h
  obtain ⟨u, v, pos, rfl, h⟩ := h
  simp only [Bool.and_eq_true] at h
  have q := se_idx (pos := pos) C.u1 (iha sc u X h.1.2 C).1 (ihb sc v X h.2 C).1 h.1.1
  exact ⟨q, fun _ => st_val q fun _ => rfl⟩
theorem c_slf (a b : Ex) (iha : M1 k N n a) (ihb : M1 k N n b) : M1 k N n (.slf a b) := by
  intro sc x X h C
  replace h := inv_slf h
  obtain ⟨u, v, p, pos, rfl, h⟩ := h
  simp only [Bool.and_eq_true] at h
  have q := se_slf (pos := pos) (p2 := p) (iha sc u X h.1 C).1 (ihb sc v X h.2 C).1
  exact ⟨q, fun _ => st_val q fun _ => rfl⟩
theorem c_slt (a b : Ex) (iha : M1 k N n a) (ihb : M1 k N n b) : M1 k N n (.slt a b) := by
  intro sc x X h C
  replace h := inv_slt h
  obtain ⟨u, v, p, pos, rfl, h⟩ := h
  simp only [Bool.and_eq_true] at h
  have q := se_slt (pos := pos) (p2 := p) (iha sc u X h.1 C).1 (ihb sc v X h.2 C).1
  exact ⟨q, fun _ => st_val q fun _ => rfl⟩
theorem c_sl2 (a b c : Ex) (iha : M1 k N n a) (ihb : M1 k N n b) (ihc : M1 k N n c) : M1 k N n (.sl2 a b c) := by
  intro sc x X h C
  replace h := inv_sl2 h
  obtain ⟨u, v, w, p, pos, rfl, h⟩ := h
  simp only [Bool.and_eq_true] at h
  have q := se_sl2 (pos := pos) (p2 := p) (iha sc u X h.1.1 C).1 (ihb sc v X h.1.2 C).1 (ihc sc w X h.2 C).1
  exact ⟨q, fun _ => st_val q fun _ => rfl⟩
theorem c_call (f : Str) (es : Exs) (ih : M2 k N n es) : M1 k N n (.call f es) := by
  intro sc x X h C
  replace h := inv_call h
  obtain ⟨g, gp, xs, pos, rfl, h⟩ := h
  simp only [Bool.and_eq_true] at h
  obtain ⟨⟨⟨h1, h2⟩, h3⟩, h4⟩ := h
  split at h1
  · rename_i fn e
    simp only [Bool.and_eq_true, decide_eq_true_eq] at h1
    obtain ⟨a, fd, ps, r1, r2, r3, r4⟩ := C.fns f fn e h2
    rw [h1.1] at r2
    have q := se_call (pos := pos) (gp := gp) r1 C.room (C.gl h3) (glb_of h3).2 r2 r3 r4 ((ih sc X C).1 xs h4) (chkL_len h4).2 (chkL_len h4).1
    exact ⟨q, fun _ => st_val q fun _ => rfl⟩
  · cases h1
theorem c_isi (a : Ex) (t : Ty) (iha : M1 k N n a) : M1 k N n (.isi a t) := by
  intro sc x X h C
  replace h := inv_isi h
  obtain ⟨g, gp, u, y, yp, pos, rfl, h⟩ := h
  simp only [Bool.and_eq_true, decide_eq_true_eq] at h
  obtain ⟨⟨⟨⟨⟨⟨⟨h1, h2⟩, h3⟩, h4⟩, h5⟩, h6⟩, h7⟩, h8⟩ := h
  subst h1 h4
  have q := se_isi (pos := pos) (gp := gp) (yp := yp) (iha sc u X h8 C).1 (C.gl h2) (C.free _ h3) (C.gl h5) (C.free _ h6) (glb_of h5).2 h7
  exact ⟨q, fun _ => st_val q fun _ => rfl⟩
theorem c_blt (fl : Bool) (b : Bt) (a : Ex) (iha : M1 k N n a) : M1 k N n (.blt fl b a) := by
  intro sc x X h C
  replace h := inv_blt h
  obtain ⟨g, gp, u, pos, rfl, h⟩ := h
  simp only [Bool.and_eq_true, decide_eq_true_eq] at h
  obtain ⟨⟨⟨⟨h1, h2⟩, h3⟩, h4⟩, h5⟩ := h
  subst h1
  have q := se_blt (fl := fl) (pos := pos) (gp := gp) C.calm (iha sc u X h5 C).1 (C.gl h2) (C.free _ h3) h4
  exact ⟨q, fun _ => st_val q fun _ => rfl⟩
theorem c_mth (t : Mt) (o : Ex) (es : Exs) (iho : M1 k N n o) (ih : M2 k N n es) : M1 k N n (.mth t o es) := by
  intro sc x X h C
  replace h := inv_mth h
  obtain ⟨u, g, apos, xs, pos, rfl, h⟩ := h
  simp only [Bool.and_eq_true, decide_eq_true_eq] at h
  obtain ⟨⟨⟨⟨⟨h1, h2⟩, h3⟩, h4⟩, h5⟩, h6⟩ := h
  subst h1
  cases xs with
  | nil => cases t <;> cases h4
  | cons b xs =>
    have q := se_mth (t := t) C.u1 (iho sc u X h5 C).1 ((ih sc X C).1 _ h6) h2 (chkL_len h6).2 h3 (by rw [h4]; cases t <;> decide)
    exact ⟨q, fun _ => st_val q fun _ => rfl⟩
theorem it_noSet {it : Mp.It} {sc : Scope} {i : Expr} (h5 : chkI k N it sc i = true) : noSet i = true := by
  cases it with
  | e a =>
    have h5 : (noSet i && chkE k N a sc i) = true := h5
    rw [Bool.and_eq_true] at h5
    exact h5.1
  | rng a => cases i <;> first | (cases h5; done) | rfl
  | rng2 a b => cases i <;> first | (cases h5; done) | rfl
theorem c_lc (fl : Bool) (e : Ex) (tg : Tg) (it : Mp.It) (ihe : M1 k N n e) (ihi : M3 k N n it) : M1 k N n (.lc fl e tg it) := by
  intro sc x X h C
  replace h := inv_lc h
  obtain ⟨u, t, i, a, scope, pos, rfl, h⟩ := h
  simp only [Bool.and_eq_true, decide_eq_true_eq] at h
  obtain ⟨⟨⟨⟨⟨h1, h2⟩, h3⟩, h4⟩, h5⟩, h6⟩ := h
  subst h1
  have hl := loc_blk h3
  have nd : X.N.Nodup := by rw [C.hN]; exact C.nd
  have q := pe_lc (pos := pos) (elt := u) (te := tE (callN k.T n) X.K e) (g := gOf X.K tg) (tt := tYes) C.calm nd (ihi sc t i X h5 C) (by rw [C.hN, C.hsc]; exact blkOk_by h4)
    (fun s H D cl fp => sg_ok (X := X.blk s H scope (compEnvC scope cl D X.env) fp) C.hN C.nd C.calm h2 (by
      show ∀ p ∈ ownOf N tg, Loc (relS scope X.env.scope) p.1 ∧ ((scope.names.lookup p.1 == some .cell) = true ∨ (relS scope X.env.scope).names.lookup p.1 = some .local)
      rw [C.hsc]; exact hl))
    (fun s H D cl fp => pts_nil) (fun s H D cl fp => (ihe _ u _ h6 (C.blk s H D cl fp)).1) (folded_set (it_noSet h5))
  rw [own_slots] at q
  have q := peI q (lc_read (fl := fl))
  exact ⟨q, fun _ => st_val q fun _ => rfl⟩
theorem c_lci (fl : Bool) (e : Ex) (tg : Tg) (it : Mp.It) (c : Ex) (ihe : M1 k N n e) (ihi : M3 k N n it) (ihc : M1 k N n c) : M1 k N n (.lci fl e tg it c) := by
  intro sc x X h C
  replace h := inv_lci h
  obtain ⟨u, t, i, y, a, scope, pos, rfl, h⟩ := h
  simp only [Bool.and_eq_true, decide_eq_true_eq] at h
  obtain ⟨⟨⟨⟨⟨⟨⟨h1, h2⟩, h3⟩, h4⟩, h5⟩, h7⟩, h8⟩, h6⟩ := h
  subst h1
  have hl := loc_blk h3
  have nd : X.N.Nodup := by rw [C.hN]; exact C.nd
  have q := pe_lc (pos := pos) (elt := u) (ifs := [y]) (te := tE (callN k.T n) X.K e) (g := gOf X.K tg) (tt := tT (callN k.T n) X.K c) C.calm nd (ihi sc t i X h5 C) (by rw [C.hN, C.hsc]; exact blkOk_by h4)
    (fun s H D cl fp => sg_ok (X := X.blk s H scope (compEnvC scope cl D X.env) fp) C.hN C.nd C.calm h2 (by
      show ∀ p ∈ ownOf N tg, Loc (relS scope X.env.scope) p.1 ∧ ((scope.names.lookup p.1 == some .cell) = true ∨ (relS scope X.env.scope).names.lookup p.1 = some .local)
      rw [C.hsc]; exact hl))
    (fun s H D cl fp => pts_one ((ihc _ y _ h8 (C.blk s H D cl fp)).2 h7)) (fun s H D cl fp => (ihe _ u _ h6 (C.blk s H D cl fp)).1) (folded_set (it_noSet h5))
  rw [own_slots] at q
  have q := peI q (lci_read (fl := fl))
  exact ⟨q, fun _ => st_val q fun _ => rfl⟩
theorem inv_lcv {e : Ex} {tg : Tg} {j : Nat} {sc : Scope} {x : Expr} (h : chkE k N (.lcv e tg j) sc x = true) : ∃ u t y yp a scope pos, x = .ListComp u [⟨t, .Name y yp, [], a⟩] scope pos ∧ (decide (a = 0) && tgB N tg t (ownOf N tg) && lcB sc scope (ownOf N tg) && blkC N sc scope (ownOf N tg) && (decide (N[j]? = some y) && vis sc y && okN y) && chkE k N e (relS scope sc) u) = true := by
  cases x <;> first | (cases h; done) | skip
  rename_i x gs scope pos
  rcases gs with _ | ⟨⟨t, i, ifs, a⟩, gs⟩
  · cases h
  · cases i <;> first | (cases h; done) | skip
    cases ifs with
    | nil => cases gs <;> first | (cases h; done) | exact ⟨_, _, _, _, _, _, _, rfl, h⟩
    | cons y ifs => cases gs <;> (cases h; done)
theorem c_lcv (e : Ex) (tg : Tg) (j : Nat) (ihe : M1 k N n e) : M1 k N n (.lcv e tg j) := by
  intro sc x X h C
  replace h := inv_lcv h
  obtain ⟨u, t, y, yp, a, scope, pos, rfl, h⟩ := h
  simp only [Bool.and_eq_true, decide_eq_true_eq] at h
  obtain ⟨⟨⟨⟨⟨h1, h2⟩, h3⟩, h4⟩, h5⟩, h6⟩ := h
  subst h1
  have hl := loc_blk h3
  have nd : X.N.Nodup := by rw [C.hN]; exact C.nd
  have hv : PE X (.Name y yp) (tE (callN k.T n) X.K (.var j)) := se_var (by rw [C.hN]; exact h5.1.1) (by rw [C.hsc]; exact vis_of h5.1.2) h5.2
  have q := pe_lc (pos := pos) (elt := u) (te := tE (callN k.T n) X.K e) (g := gOf X.K tg) (tt := tYes) C.calm nd (pi_list (tg := t) hv) (by rw [C.hN, C.hsc]; exact blkOk_by h4)
    (fun s H D cl fp => sg_ok (X := X.blk s H scope (compEnvC scope cl D X.env) fp) C.hN C.nd C.calm h2 (by
      show ∀ p ∈ ownOf N tg, Loc (relS scope X.env.scope) p.1 ∧ ((scope.names.lookup p.1 == some .cell) = true ∨ (relS scope X.env.scope).names.lookup p.1 = some .local)
      rw [C.hsc]; exact hl))
    (fun s H D cl fp => pts_nil) (fun s H D cl fp => (ihe _ u _ h6 (C.blk s H D cl fp)).1)
  rw [own_slots] at q
  have q := peI q lcv_read
  exact ⟨q, fun _ => st_val q fun _ => rfl⟩
theorem c_nil : M2 k N n .nil := by
  intro sc X C
  refine ⟨fun xs h => ?_, fun ks keys xs pos hl hk h => ?_, fun xs pos h => ?_⟩
  · cases xs <;> first | (cases h; done) | exact sl_nil
  · cases xs <;> first | (cases h; done) | skip
    cases keys <;> first | (cases hl; done) | skip
    cases ks <;> first | (cases hk; done) | exact pps_nil
  · cases xs <;> cases h
theorem inv_keys {q : Str} {ks : List Str} {keys : List (Option Expr)} (h : keysB (q :: ks) keys = true) : ∃ j p keys', keys = some (.Constant (.str q) j p) :: keys' ∧ keysB ks keys' = true := by
  cases keys with
  | nil => cases h
  | cons key keys =>
    cases key with
    | none => cases h
    | some w =>
      cases w <;> first | (cases h; done) | skip
      rename_i c j p
      cases c <;> first | (cases h; done) | skip
      rename_i y
      have h : (decide (y = q) && keysB ks keys) = true := h
      rw [Bool.and_eq_true, decide_eq_true_eq] at h
      obtain ⟨rfl, h'⟩ := h
      exact ⟨j, p, keys, rfl, h'⟩
theorem chkA_one {e : Ex} {sc : Scope} {xs : List Expr} (h : chkA k N (.cons e .nil) sc xs = true) : ∃ x, xs = [x] ∧ tst e = true ∧ chkE k N e sc x = true := by
  rcases xs with _ | ⟨x, _ | ⟨y, xs⟩⟩
  · cases h
  · have h : (tst e && chkE k N e sc x) = true := h
    rw [Bool.and_eq_true] at h
    exact ⟨x, rfl, h.1, h.2⟩
  · have h : (tst e && chkE k N e sc x && chkA k N .nil sc (y :: xs)) = true := h
    rw [Bool.and_eq_true] at h
    cases h.2
theorem chkA_more {e e2 : Ex} {es : Exs} {sc : Scope} {xs : List Expr} (h : chkA k N (.cons e (.cons e2 es)) sc xs = true) : ∃ x y ys, xs = x :: y :: ys ∧ tst e = true ∧ chkE k N e sc x = true ∧ chkA k N (.cons e2 es) sc (y :: ys) = true := by
  rcases xs with _ | ⟨x, _ | ⟨y, xs⟩⟩
  · cases h
  · have h : (tst e && chkE k N e sc x && chkA k N (.cons e2 es) sc []) = true := h
    rw [Bool.and_eq_true] at h
    cases es <;> cases h.2
  · have h : (tst e && chkE k N e sc x && chkA k N (.cons e2 es) sc (y :: xs)) = true := h
    simp only [Bool.and_eq_true] at h
    exact ⟨x, y, xs, rfl, h.1.1, h.1.2, h.2⟩
theorem c_cons (e : Ex) (es : Exs) (ihe : M1 k N n e) (ihs : M2 k N n es) : M2 k N n (.cons e es) := by
  intro sc X C
  refine ⟨fun xs h => ?_, fun ks keys xs pos hl hk h => ?_, fun xs pos h => ?_⟩
  · cases xs with
    | nil => cases h
    | cons x xs =>
      have h : (nostar x && chkE k N e sc x && chkL k N es sc xs) = true := h
      simp only [Bool.and_eq_true] at h
      exact sl_cons (ihe sc x X h.1.2 C).1 ((ihs sc X C).1 xs h.2) h.1.1
  · cases xs with
    | nil => cases h
    | cons x xs =>
      have h : (nostar x && chkE k N e sc x && chkL k N es sc xs) = true := h
      simp only [Bool.and_eq_true] at h
      cases ks with
      | nil => cases keys <;> first | (cases hl; done) | (cases hk; done)
      | cons q ks =>
        replace hk := inv_keys hk
        obtain ⟨j, p, keys', rfl, hk⟩ := hk
        exact pps_cons pe_str (ihe sc x X h.1.2 C).1 ((ihs sc X C).2.1 ks keys' xs pos (by simpa using hl) hk h.2)
  · cases es with
    | nil =>
      obtain ⟨x, rfl, h1, h2⟩ := chkA_one h
      obtain ⟨p, q⟩ := ihe sc x X h2 C
      exact ⟨⟨se_one_and p, se_one_or p⟩, st_one_and (q h1), st_one_or (q h1)⟩
    | cons e2 es =>
      obtain ⟨x, y, ys, rfl, h1, h2, h3⟩ := chkA_more h
      obtain ⟨p, q⟩ := ihe sc x X h2 C
      obtain ⟨⟨a, b⟩, c, d⟩ := (ihs sc X C).2.2 (y :: ys) pos h3
      exact ⟨⟨se_and p a, se_or p b⟩, st_and (q h1) c, st_or (q h1) d⟩
theorem c_ie (a : Ex) (iha : M1 k N n a) : M3 k N n (.e a) := by
  intro sc tg x X h C
  have h : (noSet x && chkE k N a sc x) = true := h
  rw [Bool.and_eq_true] at h
  exact si_e (iha sc x X h.2 C).1
theorem c_rng (a : Ex) (iha : M1 k N n a) : M3 k N n (.rng a) := by
  intro sc tg x X h C
  cases x <;> first | (cases h; done) | skip
  rename_i g xs kws pos
  cases g <;> first | (cases h; done) | skip
  rename_i g gp
  rcases xs with _ | ⟨x, _ | ⟨y, xs⟩⟩ <;> first | (cases h; done) | skip
  cases kws <;> first | (cases h; done) | skip
  have h : (decide (g = "range") && glb sc g && k.Fr g && nostar x && chkE k N a sc x) = true := h
  simp only [Bool.and_eq_true, decide_eq_true_eq] at h
  obtain ⟨⟨⟨⟨h1, h2⟩, h3⟩, h4⟩, h5⟩ := h
  subst h1
  exact si_rng (iha sc x X h5 C).1 (C.gl h2) (C.free _ h3) h4
theorem c_rng2 (a b : Ex) (iha : M1 k N n a) (ihb : M1 k N n b) : M3 k N n (.rng2 a b) := by
  intro sc tg x X h C
  cases x <;> first | (cases h; done) | skip
  rename_i g xs kws pos
  cases g <;> first | (cases h; done) | skip
  rename_i g gp
  rcases xs with _ | ⟨x, _ | ⟨y, _ | ⟨z, xs⟩⟩⟩ <;> first | (cases h; done) | skip
  cases kws <;> first | (cases h; done) | skip
  have h : (decide (g = "range") && glb sc g && k.Fr g && nostar x && nostar y && chkE k N a sc x && chkE k N b sc y) = true := h
  simp only [Bool.and_eq_true, decide_eq_true_eq] at h
  obtain ⟨⟨⟨⟨⟨⟨h1, h2⟩, h3⟩, h4⟩, h6⟩, h5⟩, h7⟩ := h
  subst h1
  exact si_rng2 (iha sc x X h5 C).1 (ihb sc y X h7 C).1 (C.gl h2) (C.free _ h3) h4 h6
theorem sndE (e : Ex) : M1 k N n e := Ex.rec (motive_1 := M1 k N n) (motive_2 := M2 k N n) (motive_3 := M3 k N n)
  c_var c_cst c_glo c_bin c_neg c_cmp c_chn c_and c_or c_not c_ite c_tup c_lst c_dic c_idx c_slf c_slt c_sl2 c_call c_isi c_blt c_mth c_lc c_lci c_lcv c_nil c_cons c_ie c_rng c_rng2 e
theorem sndL (e : Exs) : M2 k N n e := Exs.rec (motive_1 := M1 k N n) (motive_2 := M2 k N n) (motive_3 := M3 k N n)
  c_var c_cst c_glo c_bin c_neg c_cmp c_chn c_and c_or c_not c_ite c_tup c_lst c_dic c_idx c_slf c_slt c_sl2 c_call c_isi c_blt c_mth c_lc c_lci c_lcv c_nil c_cons c_ie c_rng c_rng2 e
theorem sndI (e : Mp.It) : M3 k N n e := Mp.It.rec (motive_1 := M1 k N n) (motive_2 := M2 k N n) (motive_3 := M3 k N n)
  c_var c_cst c_glo c_bin c_neg c_cmp c_chn c_and c_or c_not c_ite c_tup c_lst c_dic c_idx c_slf c_slt c_sl2 c_call c_isi c_blt c_mth c_lc c_lci c_lcv c_nil c_cons c_ie c_rng c_rng2 e
end
end Mp
-- Mp16
set_option Elab.async false
set_option linter.all false
set_option maxRecDepth 100000
set_option maxHeartbeats 4000000
namespace Mp
open PySem PySem.Spec PyProof.Rows L2

theorem psI {X : Cx} {e : Stmt} {t t' : TS} (h : PS X e t) (i : ∀ D σ H, t' D σ H → t D σ H) : PS X e t' := ⟨fun pins s σ H D I q => h.run pins s σ H D I (i _ _ _ q)⟩
theorem pssI {X : Cx} {e : List Stmt} {t t' : TS} (h : PSs X e t) (i : ∀ D σ H, t' D σ H → t D σ H) : PSs X e t' := ⟨fun pins s σ H D I q => h.run pins s σ H D I (i _ _ _ q)⟩
theorem psOr {X : Cx} {e : Stmt} {t t' : TS} (h : PS X e t) (h' : PS X e t') : PS X e (fun D σ H => t D σ H ∨ t' D σ H) := ⟨fun pins s σ H D I q => q.elim (h.run pins s σ H D I) (h'.run pins s σ H D I)⟩
section
variable {F : Fs} {K : PySem.W.Frag} {σ : L2.St} {H H' : Hp} {m m' : List Addr} {u u' : Mem} {r : En} {PX : Str → List PyData → Mem → Prop}
def FlP (K : PySem.W.Frag) (H : Hp) (m : List Addr) (u : Mem) (D : Ends) : Fl → Mem → Prop
  | .nx r', u' => ∀ (m' : List Addr) (H' : Hp) (σ' : L2.St), World K H' m' u' → Goes H m u H' m' u' → RepEn K H' m' u' r' σ' → D.nx σ' H'
  | .rt v, u' => Beh K H m u D.rt v u'
theorem FlP.later (g : Goes H m u H' m' u') {D : Ends} {f : Fl} {u2 : Mem} (h : FlP K H m u D f u2) : FlP K H' m' u' D f u2 := by
  cases f with
  | nx r' => exact fun m3 H3 σ' W G e => h m3 H3 σ' W (g.trans G) e
  | rt v => exact Beh.later g h
end
variable (F : Fs) (K : PySem.W.Frag) in
def tS (e : Sx) : TS := fun D σ H => ∃ m u r PX, Cfg K σ H m u r PX ∧ Post PX (evS F e r u) (FlP K H m u D)
variable (F : Fs) (K : PySem.W.Frag) in
def tB (e : Sxs) : TS := fun D σ H => ∃ m u r PX, Cfg K σ H m u r PX ∧ Post PX (evB F e r u) (FlP K H m u D)
section
variable {X : Cx} {F : Fs} {σ : L2.St} {H : Hp} {m : List Addr} {u : Mem} {r : En} {PX : Str → List PyData → Mem → Prop}
variable {a b c e : Expr} {ea eb ec : Ex} {pos gp : Pos} {es : Exs} {xs : List Expr}

/-! ### blocks -/
theorem sb_nil : PSs X [] (tB F X.K .nil) := pssI pss_nil fun D σ H ⟨m, u, r, PX, C, p⟩ => by
  have p : FlP X.K H m u D (.nx r) u := p
  exact p m H σ C.w (Goes.refl _ _ _) C.en
theorem sb_cons {st : Stmt} {rest : List Stmt} {s : Sx} {ss : Sxs} (h1 : PS X st (tS F X.K s)) (h2 : PSs X rest (tB F X.K ss)) : PSs X (st :: rest) (tB F X.K (.cons s ss)) := pssI (pss_cons h1 h2) fun D σ H ⟨m, u, r, PX, C, p⟩ => by
  refine ⟨m, u, r, PX, C, (Post.bind p).mono fun f u1 p1 => ?_⟩
  cases f with
  | nx r1 => exact fun m1 H1 σ1 W1 G1 e1 => ⟨m1, u1, r1, PX, ⟨W1, e1, C.vx⟩, p1.mono fun f2 u2 q => q.later G1⟩
  | rt v => exact p1

/-! ### small statements -/
theorem ss_pas {st : Stmt} (h : PS X st tNext) : PS X st (tS F X.K .pas) := psI h fun D σ H ⟨m, u, r, PX, C, p⟩ => by
  have p : FlP X.K H m u D (.nx r) u := p
  exact p m H σ C.w (Goes.refl _ _ _) C.en
theorem asg_core {i : Nat} : ∀ D σ H, tS F X.K (.asg i ea) D σ H → tAsg (tE F X.K ea) (gName i) D σ H := fun D σ H ⟨m, u, r, PX, C, p⟩ =>
  one (f := fun v m1 => R.ok (Fl.nx (r.set i (some v))) m1) C p fun v x u1 m1 H1 C1 G1 rx p1 => p1 m1 H1 _ C1.w G1 (C1.en.set rx)
theorem ss_unp {t : Expr} {is : List Nat} (he : PE X a (tE F X.K ea)) (hg : PG X t (gOf X.K (.t is))) (hs : swapsWithSole [t] a pos.line X.env = pure false) (hw : swappedStores [t] a X.env = pure none) (h1 : (assignEach [t] X.env).map (·.2) = [assign t X.env]) :
    PS X (.Assign [t] a pos) (tS F X.K (.unp is ea)) := psI (ps_asg he hg hs hw h1) fun D σ H ⟨m, u, r, PX, C, p⟩ => by
  refine one (f := fun v m1 => match v with
    | .d x => match bindT r (.t is) x with
      | some r1 => R.ok (Fl.nx r1) m1
      | none => .no
    | _ => .no) C p fun v x u1 m1 H1 C1 G1 rx p1 => ?_
  split at p1
  · split at p1
    · rename_i d r1 e1
      exact g_bind (vs := is) C1.en rx e1 (fun i h => h) fun σ1 e2 _ => p1 m1 H1 σ1 C1.w G1 e2
    · exact False.elim p1
  · exact False.elim p1
theorem ss_exp (he : PE X a (tE F X.K ea)) (hs : swapsWith a none pos.line X.env = pure false) : PS X (.Expr a pos) (tS F X.K (.exp ea)) := psI (ps_expr he hs) fun D σ H ⟨m, u, r, PX, C, p⟩ =>
  one (f := fun _ m1 => R.ok (Fl.nx r) m1) C p fun v x u1 m1 H1 C1 G1 rx p1 => p1 m1 H1 σ C1.w G1 C1.en
theorem ss_ret (he : PE X a (tE F X.K ea)) : PS X (.Return (some a) pos) (tS F X.K (.ret ea)) := psI (ps_ret he) fun D σ H ⟨m, u, r, PX, C, p⟩ =>
  one (f := fun v m1 => R.ok (Fl.rt v) m1) C p fun v x u1 m1 H1 C1 G1 rx p1 => p1 m1 H1 x C1.w G1 rx
theorem ss_ret0 : PS X (.Return none pos) (tS F X.K .ret0) := psI ps_retN fun D σ H ⟨m, u, r, PX, C, p⟩ => by
  have p : FlP X.K H m u D (.rt (.d .none)) u := p
  exact p m H _ C.w (Goes.refl _ _ _) .non
theorem ss_ife {x y : List Stmt} {sa sb : Sxs} (hc : PT X c (tT F X.K ec)) (ha : PSs X x (tB F X.K sa)) (hb : PSs X y (tB F X.K sb)) : PS X (.If c x y pos) (tS F X.K (.ife ec sa sb)) := psI (ps_if hc ha hb) fun D σ H ⟨m, u, r, PX, C, p⟩ => by
  refine oneT (f := fun k m1 => match k with | true => evB F sa r m1 | false => evB F sb r m1) C p fun b u1 m1 H1 C1 G1 p1 => ?_
  cases b with
  | true => exact ⟨m1, u1, r, PX, C1, p1.mono fun f2 u2 q => q.later G1⟩
  | false => exact ⟨m1, u1, r, PX, C1, p1.mono fun f2 u2 q => q.later G1⟩
/-! ### loops -/
theorem for_core {tg : Tg} {it : Mp.It} {sb : Sxs} : ∀ D σ H, tS F X.K (.forr tg it sb) D σ H → tFor (tI F X.K it) (gOf X.K tg) (tB F X.K sb) D σ H := by
  rintro D σ H ⟨m, u, r, PX, C, p⟩
  refine ⟨m, u, r, PX, C, (Post.bind p).mono fun ds u1 p1 m1 H1 J W1 G1 it => ?_⟩
  have en1 := C.en.go C.w G1
  let f : PyData → En → Mem → R Fl := fun x r1 m2 => match bindT r1 tg x with
    | some r2 => evB F sb r2 m2
    | none => .no
  have p1 : Post PX (forL f ds r u1) (FlP X.K H m u D) := p1
  let Pv : Nat → L2.St → Hp → Prop := fun i σ' H' => ∃ m' u' r', World X.K H' m' u' ∧ Goes H1 m1 u1 H' m' u' ∧ RepEn X.K H' m' u' r' σ' ∧ Post PX (forL f (ds.drop i) r' u') (FlP X.K H m u D)
  have h0 : Pv 0 σ H1 := ⟨m1, u1, r, W1, Goes.refl _ _ _, en1, p1⟩
  have hd : ∀ σ' H', Pv ds.length σ' H' → D.nx σ' H' := by
    rintro σ' H' ⟨m', u', r', W', G', e', q⟩
    rw [List.drop_length] at q
    have q : FlP X.K H m u D (.nx r') u' := q
    exact q m' H' σ' W' (G1.trans G') e'
  have hs : ∀ i d x σ' H', ds[i]? = some d → Pv i σ' H' → (∀ m' u', World X.K H' m' u' → Goes H1 m1 u1 H' m' u' → Rep X.K (Live m' u') H' d x) →
      gOf X.K tg x σ' H' fun σ2 H2 => tB F X.K sb { D with nx := Pv (i + 1), ct := Pv (i + 1), bk := D.nx } σ2 H2 := by
    rintro i d x σ' H' ed ⟨m', u', r', W', G', e', q⟩ hx
    have hi : i < ds.length := (List.getElem?_eq_some_iff.mp ed).1
    have edr : ds.drop i = d :: ds.drop (i + 1) := by
      rw [List.drop_eq_getElem_cons hi]
      have : ds[i] = d := (List.getElem?_eq_some_iff.mp ed).2
      rw [this]
    rw [edr] at q
    have q : Post PX ((f d r' u').bind fun fl m1 => match fl with
      | .nx r1 => forL f (ds.drop (i + 1)) r1 m1
      | .rt v => .ok (.rt v) m1) (FlP X.K H m u D) := q
    have q := Post.bind q
    have q : Post PX (match bindT r' tg d with
      | some r2 => evB F sb r2 u'
      | none => .no) (fun fl m1 => Post PX (match fl with
      | .nx r1 => forL f (ds.drop (i + 1)) r1 m1
      | .rt v => .ok (.rt v) m1) (FlP X.K H m u D)) := q
    split at q
    · rename_i r2 e2
      refine g_bind (vs := tg.slots) e' (hx m' u' W' G') e2 (fun i h => h) fun σ1 e1 _ => ⟨m', u', r2, PX, ⟨W', e1, C.vx⟩, q.mono fun fl u2 q2 => ?_⟩
      cases fl with
      | nx r3 => exact fun m3 H3 σ3 W3 G3 e3 => ⟨m3, u2, r3, W3, G'.trans G3, e3, q2⟩
      | rt v =>
        have q2 : Beh X.K H m u D.rt v u2 := q2
        exact q2.later (G1.trans G')
    · exact False.elim q
  obtain ⟨hz, it⟩ := it
  rcases it with ⟨a, xs, rfl, ea, na, rs⟩ | ⟨a, xs, rfl, ea, rs⟩ | ⟨lo, n, rfl, rfl⟩
  · refine for_list Pv h0 (fun i σ' H' hi ⟨m', u', r', W', G', e', q⟩ => ?_) (fun i x σ' H' hx pv => ?_) (fun σ' H' pv => hd σ' H' (by rw [rs.length]; exact pv))
    · exact .inl (.inl (G'.gx a _ ea na).1)
    · have hi : i < ds.length := by rw [rs.length]; exact (List.getElem?_eq_some_iff.mp hx).1
      refine hs i ds[i] x σ' H' (by simp [hi]) pv fun m' u' W' G' => ?_
      obtain ⟨x', h1, h2⟩ := rs.get (i := i) (d := ds[i]) (by simp [hi])
      rw [hx] at h1; cases h1
      exact h2.go G'.gx W1.lv
  · refine for_tup Pv h0 (fun i σ' H' hi ⟨m', u', r', W', G', e', q⟩ => ?_) (fun i x σ' H' hx pv => ?_) (fun σ' H' pv => hd σ' H' (by rw [rs.length]; exact pv))
    · exact SqT.go G'.gx W1.lv ea
    · have hi : i < ds.length := by rw [rs.length]; exact (List.getElem?_eq_some_iff.mp hx).1
      refine hs i ds[i] x σ' H' (by simp [hi]) pv fun m' u' W' G' => ?_
      obtain ⟨x', h1, h2⟩ := rs.get (i := i) (d := ds[i]) (by simp [hi])
      rw [hx] at h1; cases h1
      exact h2.go G'.gx W1.lv
  · have hn : ((List.range n).map fun (i : Nat) => PyData.int (lo + (i : Int))).length = n := by simp
    refine for_range Pv h0 (fun i σ' H' hi pv => ?_) (fun σ' H' pv => hd σ' H' (by rw [hn]; exact pv))
    exact hs i (.int (lo + i)) (.int (lo + i)) σ' H' (by simp [hi]) pv fun m' u' W' G' => .int _
theorem whl_core {n : Nat} {sb : Sxs} : ∀ D σ H, tS F X.K (.whl n ec sb) D σ H → tWhile (tT F X.K ec) (tB F X.K sb) D σ H := by
  rintro D σ H ⟨m, u, r, PX, C, p⟩
  refine ⟨fun n σ' H' => ∃ m' u' r', World X.K H' m' u' ∧ Goes H m u H' m' u' ∧ RepEn X.K H' m' u' r' σ' ∧ Post PX (whlL (fun r m => evT F ec r m) (fun r m => evB F sb r m) n r' u') (FlP X.K H m u D), ⟨n, m, u, r, C.w, Goes.refl _ _ _, C.en, p⟩, ?_⟩
  rintro n σ' H' ⟨m', u', r', W', G', e', q⟩
  cases n with
  | zero => exact False.elim q
  | succ n =>
    refine oneT (f := fun k m1 => match k with
      | false => .ok (.nx r') m1
      | true => (evB F sb r' m1).bind fun fl m2 => match fl with
        | .nx r1 => whlL (fun r m => evT F ec r m) (fun r m => evB F sb r m) n r1 m2
        | .rt v => .ok (.rt v) m2) ⟨W', e', C.vx⟩ q fun b u1 m1 H1 C1 G1 p1 => ?_
    cases b with
    | false =>
      have p1 : FlP X.K H m u D (.nx r') u1 := p1
      exact p1 m1 H1 σ' C1.w (G'.trans G1) C1.en
    | true =>
      refine ⟨_, fun σ2 H2 h => ⟨n, Nat.lt_succ_self n, h⟩, m1, u1, r', PX, C1, (Post.bind p1).mono fun fl u2 q2 => ?_⟩
      cases fl with
      | nx r3 => exact fun m3 H3 σ3 W3 G3 e3 => ⟨m3, u2, r3, W3, G'.trans (G1.trans G3), e3, q2⟩
      | rt v =>
        have q2 : Beh X.K H m u D.rt v u2 := q2
        exact q2.later (G'.trans G1)
/-! ### stores and methods that change a list -/
theorem lsK_at {K : PySem.W.Frag} {v : Vl} {x : V} {n : Nat} (W : World K H m u) (r : RepV K H m u v x) (e : lsK u v = some n) : ∃ a ds xs, v = .r n ∧ x = .ref a ∧ m[n]? = some a ∧ u[n]? = some (.lst ds) ∧ H a = some (.lst xs) := by
  unfold lsK at e
  split at e
  · split at e
    · rename_i ds h
      cases e
      obtain ⟨a, ea, ex⟩ := r
      obtain ⟨z, vs, e1, rs⟩ := W.cell _ _ _ h ea
      exact ⟨a, ds, vs, rfl, ex, ea, h, e1⟩
    · cases e
  · cases e
theorem app_read {o ee : Ex} : ∀ D σ H, tS F X.K (.app o ee) D σ H → tDrop (tBM X.K "list" rAppend (tE F X.K o) (tL F X.K (.cons ee .nil))) D σ H := by
  rintro D σ H ⟨m, u, r, PX, C, p⟩
  refine one (P := fun x H1 => tyV X.K "list" x H1 ∧ tL F X.K (.cons ee .nil) σ H1 fun xs H2 => rAppend x xs H2 fun _ H1 => D.nx σ H1) (f := fun x m1 => match lsK m1 x with
    | some n => (evE F ee r m1).bind fun v m2 => (fz v m2).bind fun w m3 => match m3[n]? with
      | some (.lst xs) => if xs.length < sizeLine then R.ok (Fl.nx r) (m3.set n (.lst (xs ++ [w]))) else .no
      | _ => .no
    | none => .no) C p fun v x u1 m1 H1 C1 G1 rx p1 => ?_
  split at p1
  · rename_i n en
    obtain ⟨a, ds, xs, rfl, rfl, ea, eu, eh⟩ := lsK_at C1.w rx en
    refine ⟨.inl ⟨rfl, _, .of eh⟩, ?_⟩
    refine ⟨m1, u1, r, PX, C1, ?_⟩
    show Post PX ((evE F ee r u1).bind fun v m1 => (R.ok [] m1 : R (List Vl)).bind fun vs m2 => R.ok (v :: vs) m2) _
    have p2 := Post.bind p1
    cases e : evE F ee r u1 with
    | no => rw [e] at p2; exact False.elim p2
    | ex c fs m => rw [e] at p2; exact p2
    | ok v u2 =>
      rw [e] at p2
      intro m2 H2 ys W2 G2 rs _
      have p3 := Post.bind p2
      cases rs with
      | cons ry t =>
        cases t
        cases e4 : fz v u2 with
        | no => rw [e4] at p3; exact False.elim p3
        | ex c fs m => rw [e4] at p3; exact (C.vx _ _ _ p3).elim
        | ok w u3 =>
          rw [e4] at p3
          obtain ⟨W3, G3, r3⟩ := fz_ok (PX := PX) W2 ry e4
          have p3 : Post PX (match u3[n]? with
            | some (.lst xs) => if xs.length < sizeLine then R.ok (Fl.nx r) (u3.set n (.lst (xs ++ [w]))) else .no
            | _ => .no) (FlP X.K H m u D) := p3
          split at p3
          · rename_i zs ez
            split at p3
            · rename_i hl
              have ea2 : m2[n]? = some a := (G2.trans G3).pre _ _ ea
              obtain ⟨z, vs, e6, rs⟩ := W3.cell _ _ _ ez ea2
              obtain ⟨W6, G6⟩ := W3.wr (o := .lst (vs ++ [_])) (c' := .lst (zs ++ [w])) ez ea2 rfl rfl fun L g => ⟨by rw [List.length_append]; show zs.length + 1 ≤ _; omega, vs ++ [_], upd_same, (rs.go g W3.lv).append (.cons (r3.go g W3.lv) .nil)⟩
              have GG : Goes H m u _ m2 (u3.set n (.lst (zs ++ [w]))) := G1.trans (G2.trans (G3.trans G6))
              exact ⟨a, vs, _, rfl, rfl, e6, by rw [← rs.length]; exact hl, p3 m2 _ σ W6 GG (C.en.go C.w GG)⟩
            · exact False.elim p3
          · exact False.elim p3
  · exact False.elim p1
open AutoSeq1 in
theorem meets_ext (l : Addr) (items : Array Value) (n : Nat) (b : Addr) (d2 : Option Addr) (s2 : Array (Option Value)) (items2 : Array Value) (n2 : Nat) (hs0 : ¬(!items.isEmpty && Builtin.List.listTooLong (items.size + items2.size)) = true) (hs1 : items.size ≤ sizeLine) (hs2 : items.size + items2.size ≤ sizeLine + 1) :
    Meets (Builtin.«list.extend» ⟨[.ref l, .ref b], []⟩) (fun _ R s => s.heap.get? l = some { cls := .type "list", dict := none, data := .seq items n, slots := #[] } ∧ s.heap.get? b = some { cls := .type "tuple", dict := d2, data := .seq items2 n2, slots := s2 } ∧ R (.ok (.ret Value.none)) { s with heap := s.heap.update l (Obj.mapSeq fun x => x ++ items2), toks := s.toks }) :=
  .of_wp fun prog w A R s h => by
    obtain ⟨hp, g, d, tk, os⟩ := s; obtain ⟨hl, hb, h⟩ := h; have f1 := AutoSeq1.idx_int; have f2 := AutoSeq1.sub_tuple_tuple; have f3 := AutoSeq1.sub_list_list; have f4 := AutoSeq1.sub_tuple_list; have f5 := AutoSeq1.sub_list_tuple;
    have hz' : (items ++ items2).size ≤ sizeLine + 1 := by rw [Array.size_append]; exact hs2
    wp_walk using (wpAny_updateSeq hl rfl (hz := hs1) (_hz' := hz')), AutoSeq1.wpAny_loadPart' hl, AutoSeq1.wpAny_loadPart' hb; exact ⟨_, rfl, h⟩
def rExtT (K : PySem.W.Frag) : V → List V → Hp → VK → Prop := fun x vs H Q => ∃ l b xs zs, x = .ref l ∧ vs = [.ref b] ∧ H l = some (.lst xs) ∧ SqT K H b zs ∧ xs.length + zs.length ≤ sizeLine ∧ Q .non (upd H l (.lst (xs ++ zs)))
theorem mt_extT : MtM X "list.extend" (rExtT X.K) := by
  intro pins s σ H x vs v us Q I rx rv h
  obtain ⟨l, b, xs, zs, rfl, rfl, hH, hB, hz, q⟩ := h
  cases rx
  obtain ⟨u, rfl, ru⟩ := rv.one
  cases ru
  obtain ⟨z, its, n, r, hl, e⟩ := I.lstM hH
  obtain ⟨its2, r2, ⟨o2, e2, c2, n2, d2⟩, _⟩ := I.tuple hB
  obtain ⟨oc, od, oda, osl⟩ := o2
  simp only at c2 d2
  subst c2 d2
  have hl2 : zs.length = its2.length := r2.length
  have hsz : its.toArray.size + its2.toArray.size ≤ sizeLine := by rw [List.size_toArray, List.size_toArray]; omega
  have hlong : ¬ (!its.toArray.isEmpty && Builtin.List.listTooLong (its.toArray.size + its2.toArray.size)) = true := by
    rw [notLongL hsz, Bool.and_false]
    exact Bool.false_ne_true
  refine call_meets F.slot_list_extend ⟨_, e, rfl⟩ F.entry_list_extend (F.args_list_extend_2 _ _)
    (meets_ext l its.toArray n b od osl its2.toArray n2 hlong (by rw [List.size_toArray]; omega) (by omega)) ⟨e, e2, ?_⟩
  refine ⟨.non, _, I.lset (its' := its ++ its2) hH e (by simp) (r.append r2) ?_, rfl, q⟩
  rw [List.length_append]
  omega
theorem mtM_or {id : String} {r r' : V → List V → Hp → VK → Prop} (h : MtM X id r) (h' : MtM X id r') : MtM X id (fun x vs H Q => r x vs H Q ∨ r' x vs H Q) := fun pins s σ H x vs v us Q I rx rv q => q.elim (h pins s σ H x vs v us Q I rx rv) (h' pins s σ H x vs v us Q I rx rv)
abbrev rExtA (K : PySem.W.Frag) : V → List V → Hp → VK → Prop := fun x vs H Q => rExtend x vs H Q ∨ rExtT K x vs H Q
theorem ext_read {o ee : Ex} : ∀ D σ H, tS F X.K (.ext o ee) D σ H → tDrop (tBM X.K "list" (rExtA X.K) (tE F X.K o) (tL F X.K (.cons ee .nil))) D σ H := by
  rintro D σ H ⟨m, u, r, PX, C, p⟩
  refine one (P := fun x H1 => tyV X.K "list" x H1 ∧ tL F X.K (.cons ee .nil) σ H1 fun xs H2 => rExtA X.K x xs H2 fun _ H1 => D.nx σ H1) (f := fun x m1 => match lsK m1 x with
    | some n => (evE F ee r m1).bind fun v m2 => (fz v m2).bind fun w m3 => match m3[n]?, itemsOf w with
      | some (.lst xs), some ys => if xs.length + ys.length ≤ sizeLine then R.ok (Fl.nx r) (m3.set n (.lst (xs ++ ys))) else .no
      | _, _ => .no
    | none => .no) C p fun v x u1 m1 H1 C1 G1 rx p1 => ?_
  split at p1
  · rename_i n en
    obtain ⟨a, ds, xs, rfl, rfl, ea, eu, eh⟩ := lsK_at C1.w rx en
    refine ⟨.inl ⟨rfl, _, .of eh⟩, ?_⟩
    refine ⟨m1, u1, r, PX, C1, ?_⟩
    show Post PX ((evE F ee r u1).bind fun v m1 => (R.ok [] m1 : R (List Vl)).bind fun vs m2 => R.ok (v :: vs) m2) _
    have p2 := Post.bind p1
    cases e : evE F ee r u1 with
    | no => rw [e] at p2; exact False.elim p2
    | ex c fs m => rw [e] at p2; exact p2
    | ok v u2 =>
      rw [e] at p2
      intro m2 H2 ys W2 G2 rs _
      have p3 := Post.bind p2
      cases rs with
      | cons ry t =>
        cases t
        cases e4 : fz v u2 with
        | no => rw [e4] at p3; exact False.elim p3
        | ex c fs m => rw [e4] at p3; exact (C.vx _ _ _ p3).elim
        | ok w u3 =>
          rw [e4] at p3
          obtain ⟨W3, G3, r3⟩ := fz_ok (PX := PX) W2 ry e4
          have p3 : Post PX (match u3[n]?, itemsOf w with
            | some (.lst xs), some ys => if xs.length + ys.length ≤ sizeLine then R.ok (Fl.nx r) (u3.set n (.lst (xs ++ ys))) else .no
            | _, _ => .no) (FlP X.K H m u D) := p3
          split at p3
          · rename_i zs ws ez ew
            split at p3
            · rename_i hl
              have ea2 : m2[n]? = some a := (G2.trans G3).pre _ _ ea
              obtain ⟨z, vs, e6, rs⟩ := W3.cell _ _ _ ez ea2
              have fin : ∀ ys, RepL X.K (Live m2 u3) H2 ws ys → vs.length + ys.length ≤ sizeLine ∧ D.nx σ (upd H2 a (.lst (vs ++ ys))) := fun ys r5 => by
                obtain ⟨W6, G6⟩ := W3.wr (o := .lst (vs ++ ys)) (c' := .lst (zs ++ ws)) ez ea2 rfl rfl fun L g => ⟨by rw [List.length_append]; exact hl, vs ++ ys, upd_same, (rs.go g W3.lv).append (r5.go g W3.lv)⟩
                have GG : Goes H m u _ m2 (u3.set n (.lst (zs ++ ws))) := G1.trans (G2.trans (G3.trans G6))
                exact ⟨by rw [← rs.length, ← r5.length]; exact hl, p3 m2 _ σ W6 GG (C.en.go C.w GG)⟩
              cases r3 with
              | lst z e7 n7 r7 =>
                cases ew
                obtain ⟨q1, q2⟩ := fin _ r7
                exact .inl ⟨a, _, vs, _, rfl, rfl, e6, e7, q1, q2⟩
              | tup z e7 r7 =>
                cases ew
                obtain ⟨q1, q2⟩ := fin _ r7
                exact .inr ⟨a, _, vs, _, rfl, rfl, e6, e7, q1, q2⟩
              | _ => cases ew
            · exact False.elim p3
          · exact False.elim p3
  · exact False.elim p1
theorem few_of {pos : Pos} {env : Env} {x : Expr} (hn : nostar x = true) : ((backTo pos (starEach [x] env)).all (fun x => !x.1) && (backToKw pos (keywordEach [] env)).all (fun x => x.1.isSome) && decide ([x].length + ([] : List Keyword).length + (if ([] : List Keyword).isEmpty then 0 else 1) < 30)) = true := by
  rw [star_few (by rw [List.all_cons, hn]; rfl)]
  rfl
theorem ss_app {o x : Expr} {oe xe : Ex} {apos cpos : Pos} (ho : PE X o (tE F X.K oe)) (hx : PE X x (tE F X.K xe)) (h0 : noC0 o = true) (hn : nostar x = true) (hline : (apos.endLine == cpos.line) = true) : PS X (.Expr (.Call (.Attribute o "append" apos) [x] [] cpos) pos) (tS F X.K (.app oe xe)) :=
  psI (ps_expr (pe_bm PySem.F.plainAttrs_list PySem.F.slot_list_append PySem.F.type_list_append mt_append ho (sl_cons hx sl_nil hn) (attr_base h0) (few_of hn) hline (star_cons hn) rfl)) app_read
theorem ss_ext {o x : Expr} {oe xe : Ex} {apos cpos : Pos} (ho : PE X o (tE F X.K oe)) (hx : PE X x (tE F X.K xe)) (h0 : noC0 o = true) (hn : nostar x = true) (hline : (apos.endLine == cpos.line) = true) : PS X (.Expr (.Call (.Attribute o "extend" apos) [x] [] cpos) pos) (tS F X.K (.ext oe xe)) :=
  psI (ps_expr (pe_bm PySem.F.plainAttrs_list PySem.F.slot_list_extend PySem.F.type_list_extend (mtM_or mt_extend mt_extT) ho (sl_cons hx sl_nil hn) (attr_base h0) (few_of hn) hline (star_cons hn) rfl)) ext_read
theorem sti_read {ee o i : Ex} : ∀ D σ H, tS F X.K (.sti o i ee) D σ H → (sDPut (tE F X.K o) (tE F X.K i) (tE F X.K ee) D σ H ∨ tAsg (tE F X.K ee) (gSub (tE F X.K o) (tE F X.K i) rSetL) D σ H) := by
  rintro D σ H ⟨m, u, r, PX, C, p⟩
  have p1 := Post.bind (r := evE F ee r u) p
  cases e1 : evE F ee r u with
  | no => rw [e1] at p1; exact False.elim p1
  | ex c fs m => rw [e1] at p1; exact (C.vx _ _ _ p1).elim
  | ok v u1 =>
    rw [e1] at p1
    have p2 := Post.bind (r := evE F o r u1) p1
    cases e2 : evE F o r u1 with
    | no => rw [e2] at p2; exact False.elim p2
    | ex c fs m => rw [e2] at p2; exact (C.vx _ _ _ p2).elim
    | ok x u2 =>
      rw [e2] at p2
      have p3 := Post.bind (r := evE F i r u2) p2
      cases e3 : evE F i r u2 with
      | no => rw [e3] at p3; exact False.elim p3
      | ex c fs m => rw [e3] at p3; exact (C.vx _ _ _ p3).elim
      | ok y u3 =>
        rw [e3] at p3
        have p4 := Post.bind (r := fz v u3) p3
        cases e4 : fz v u3 with
        | no => rw [e4] at p4; exact False.elim p4
        | ex c fs m => rw [e4] at p4; exact (C.vx _ _ _ p4).elim
        | ok w u4 =>
          rw [e4] at p4
          replace p4 : Post PX (match x, y with
            | .r n, .d k => match u4[n]? with
              | some (.dct kvs) => match kOf k with
                | some k => if kvs.length < sizeLine then R.ok (Fl.nx r) (u4.set n (.dct (putKK kvs k w))) else .no
                | none => .no
              | some (.lst xs) => match k with
                | .int j => match ixN xs.length j with
                  | some j => .ok (.nx r) (u4.set n (.lst (xs.set j w)))
                  | none => .no
                | _ => .no
              | _ => .no
            | _, _ => .no) (FlP X.K H m u D) := p4
          split at p4
          · rename_i n kd
            split at p4
            · rename_i kvs ek
              split at p4
              · rename_i kk ekk
                split at p4
                · rename_i hl
                  refine .inl ⟨m, u, r, PX, C, ?_⟩
                  rw [e1]
                  intro m1 H1 x1 W1 G1 r1
                  refine ⟨m1, u1, r, PX, C.go W1 G1, ?_⟩
                  rw [e2]
                  intro m2 H2 x2 W2 G2 r2
                  refine ⟨m2, u2, r, PX, (C.go W1 G1).go W2 G2, ?_⟩
                  rw [e3]
                  intro m3 H3 x3 W3 G3 r3
                  obtain ⟨a, ea, ex⟩ := r2
                  obtain ⟨W4, G4, r4⟩ := fz_ok (PX := PX) W3 ((r1.go W1 G2).go W2 G3) e4
                  have ea3 : m3[n]? = some a := (G3.trans G4).pre _ _ ea
                  obtain ⟨ks, e6, rs⟩ := W4.cell _ _ _ ek ea3
                  have ey : x3 = kV kk := kD_rep (r3.go W3 G4) ekk
                  obtain ⟨W6, G6⟩ := W4.wr (o := .dK (putK ks kk x1)) (c' := .dct (putKK kvs kk w)) ek ea3 rfl rfl fun L g => ⟨_, upd_same, (rs.go g W4.lv).put kk (r4.go g W4.lv)⟩
                  have GG := G1.trans (G2.trans (G3.trans (G4.trans G6)))
                  exact ⟨a, _, ex, .inl ⟨ks, kk, e6, ey, by rw [← rs.length]; exact hl, rfl⟩, p4 m3 _ σ W6 GG (C.en.go C.w GG)⟩
                · exact False.elim p4
              · exact False.elim p4
            · rename_i xs ek
              split at p4
              · rename_i j
                split at p4
                · rename_i j' ej
                  refine .inr ⟨m, u, r, PX, C, ?_⟩
                  rw [e1]
                  intro m1 H1 x1 W1 G1 r1
                  refine ⟨m1, u1, r, PX, C.go W1 G1, ?_⟩
                  rw [e2]
                  intro m2 H2 x2 W2 G2 r2
                  refine ⟨m2, u2, r, PX, (C.go W1 G1).go W2 G2, ?_⟩
                  rw [e3]
                  intro m3 H3 x3 W3 G3 r3
                  obtain ⟨a, ea, ex⟩ := r2
                  obtain ⟨W4, G4, r4⟩ := fz_ok (PX := PX) W3 ((r1.go W1 G2).go W2 G3) e4
                  have ea3 : m3[n]? = some a := (G3.trans G4).pre _ _ ea
                  obtain ⟨z, vs, e6, rs⟩ := W4.cell _ _ _ ek ea3
                  have ey : x3 = .int j := by cases r3; rfl
                  obtain ⟨W6, G6⟩ := W4.wr (o := .lst (vs.set j' x1)) (c' := .lst (xs.set j' w)) ek ea3 rfl rfl fun L g => ⟨by rw [List.length_set]; exact z, _, upd_same, RepL.set (r4.go g W4.lv) j' (rs.go g W4.lv)⟩
                  have GG := G1.trans (G2.trans (G3.trans (G4.trans G6)))
                  exact ⟨a, vs, j, j', ex, ey, e6, by rw [← rs.length]; exact ej, p4 m3 _ σ W6 GG (C.en.go C.w GG)⟩
                · exact False.elim p4
              · exact False.elim p4
            · exact False.elim p4
          · exact False.elim p4
end
end Mp
-- Mp17
set_option Elab.async false
set_option linter.all false
set_option maxRecDepth 100000
set_option maxHeartbeats 4000000
namespace Mp
open PySem PySem.Spec PyProof.Rows L2

/-! ## the check of statements -/
def locB (sc : Scope) (x : Str) : Bool := match sc.names.lookup x with
  | some .local => true
  | some .cell => true
  | _ => false
def noComp : Expr → Bool
  | .ListComp .. => false
  | .SetComp .. => false
  | .DictComp .. => false
  | _ => true
def noTup : Expr → Bool
  | .Tuple .. => false
  | _ => true
/-- the list is stored ahead of the comprehension's end -/
def swB (sc : Scope) (x : Str) (py : Pos) : Expr → Bool
  | .ListComp _ _ scope pos => decide (sc.names.lookup x = some .local) && (py.line == pos.line) && !(scope.names.any fun (n, k) => n == x && (k == .local || k == .cell))
  | _ => false
variable (k : Kx) (N : List Str)
mutual
def chkS : Sx → Scope → Stmt → Bool
  | .asg i e, sc, .Assign [.Name x _] v _ => decide (N[i]? = some x) && locB sc x && chkE k N e sc v
  | .unp is e, sc, .Assign [t] v _ => noComp v && noTup v && tgB N (.t is) t (ownOf N (.t is)) && ((ownOf N (.t is)).all fun p => locB sc p.1) && chkE k N e sc v
  | .sti o i e, sc, .Assign [.Subscript x y _] v _ => noSl y && noTup v && chkE k N o sc x && chkE k N i sc y && chkE k N e sc v
  | .exp e, sc, .Expr x _ => noComp x && chkE k N e sc x
  | .app o e, sc, .Expr (.Call (.Attribute x g apos) [y] [] cpos) _ => decide (g = "append") && noC0 x && nostar y && (apos.endLine == cpos.line) && chkE k N o sc x && chkE k N e sc y
  | .ext o e, sc, .Expr (.Call (.Attribute x g apos) [y] [] cpos) _ => decide (g = "extend") && noC0 x && nostar y && (apos.endLine == cpos.line) && chkE k N o sc x && chkE k N e sc y
  | .ret e, sc, .Return (some x) _ => chkE k N e sc x
  | .ret0, _, .Return none _ => true
  | .ife c a b, sc, .If x ys zs _ => tst c && chkE k N c sc x && chkB a sc ys && chkB b sc zs
  | .forr tg it b, sc, .For t i ys [] _ => tgB N tg t (ownOf N tg) && ((ownOf N tg).all fun p => locB sc p.1) && chkI k N it sc i && chkB b sc ys
  | .whl _ c b, sc, .While x ys [] _ => tst c && chkE k N c sc x && chkB b sc ys
  | .pas, _, .Pass _ => true
  | .pas, _, .Expr (.Constant (.str _) _ _) _ => true
  | _, _, _ => false
def chkB : Sxs → Scope → List Stmt → Bool
  | .nil, _, [] => true
  | .cons s ss, sc, x :: xs => chkS s sc x && chkB ss sc xs
  | _, _, _ => false
end
structure CnS (k : Kx) (N : List Str) (n : Nat) (sc : Scope) (X : Cx) : Prop where
  c : Cn k N n sc X
  fnT : ∀ x, X.fn x = true
  kind : sc.kind = .function
  own : PassesOwn (model X.prog X.w) X.A X.env X.xe
section
variable {k : Kx} {N : List Str} {n : Nat}
theorem locB_of {sc : Scope} {x : Str} (h : locB sc x = true) : Loc sc x := by
  unfold locB at h
  split at h
  · rename_i e; exact .inl e
  · rename_i e; exact .inr e
  · cases h
theorem CnS.tg {sc : Scope} {X : Cx} (C : CnS k N n sc X) {own : List (Str × Nat)} (h : (own.all fun p => locB sc p.1) = true) : ∀ p ∈ own, Loc X.env.scope p.1 ∧ (X.fn p.1 = true ∨ X.env.scope.names.lookup p.1 = some .local) := fun p hp =>
  ⟨by rw [C.c.hsc]; exact locB_of (List.all_eq_true.mp h p hp), .inl (C.fnT _)⟩
theorem sw_no {x : Expr} {t : Option Expr} {l : Nat} {env : Env} (h : noComp x = true) : swapsWith x t l env = pure false := by
  cases x <;> first | (cases h; done) | rfl
theorem sw_sub {v x y : Expr} {p : Pos} {l : Nat} {env : Env} : swapsWith v (some (.Subscript x y p)) l env = pure false := by
  cases v <;> rfl
theorem ss_no {t v : Expr} {env : Env} (h : noTup v = true) : swappedStores [t] v env = pure none := by
  cases v <;> first | (cases h; done) | (cases t <;> rfl)
theorem sw_lc {elt : Expr} {gs : List Comprehension} {scope : Scope} {pos py : Pos} {x : Str} {l : Nat} {env : Env} {sc : Scope} (hs : env.scope = sc) (hk : sc.kind = .function) :
    swapsWith (.ListComp elt gs scope pos) (some (.Name x py)) l env = pure (swB sc x py (.ListComp elt gs scope pos)) := by
  have hb : env.blockKind = .function := by unfold Env.blockKind; rw [hs, hk]; rfl
  have e : env.kindOf x = sc.names.lookup x := by rw [← hs]; rfl
  have hq : (sc.names.lookup x == some NameKind.local) = decide (sc.names.lookup x = some .local) := by
    cases h : sc.names.lookup x with
    | none => rfl
    | some q => cases q <;> rfl
  unfold swapsWith swB
  simp only [hb, e, Expr.pos, hq]
  rfl
end
/-! ### inversions -/
section
variable {k : Kx} {N : List Str} {n : Nat} {sc : Scope} {st : Stmt}
theorem jnv_asg {i : Nat} {e : Ex} (h : chkS k N (.asg i e) sc st = true) : ∃ x py v pos, st = .Assign [.Name x py] v pos ∧ (decide (N[i]? = some x) && locB sc x && chkE k N e sc v) = true := by
  cases st <;> first | (cases h; done) | skip
  rename_i ts v pos
  rcases ts with _ | ⟨t, _ | ⟨t2, ts⟩⟩
  · cases h
  · cases t <;> first | (cases h; done) | exact ⟨_, _, _, _, rfl, h⟩
  · cases t <;> (cases h; done)
theorem jnv_unp {is : List Nat} {e : Ex} (h : chkS k N (.unp is e) sc st = true) : ∃ t v pos, st = .Assign [t] v pos ∧ (noComp v && noTup v && tgB N (.t is) t (ownOf N (.t is)) && ((ownOf N (.t is)).all fun p => locB sc p.1) && chkE k N e sc v) = true := by
  cases st <;> first | (cases h; done) | skip
  rename_i ts v pos
  rcases ts with _ | ⟨t, _ | ⟨t2, ts⟩⟩ <;> first | (cases h; done) | exact ⟨_, _, _, rfl, h⟩
theorem jnv_sti {o i e : Ex} (h : chkS k N (.sti o i e) sc st = true) : ∃ x y p v pos, st = .Assign [.Subscript x y p] v pos ∧ (noSl y && noTup v && chkE k N o sc x && chkE k N i sc y && chkE k N e sc v) = true := by
  cases st <;> first | (cases h; done) | skip
  rename_i ts v pos
  rcases ts with _ | ⟨t, _ | ⟨t2, ts⟩⟩
  · cases h
  · cases t <;> first | (cases h; done) | exact ⟨_, _, _, _, _, rfl, h⟩
  · cases t <;> (cases h; done)
theorem jnv_exp {e : Ex} (h : chkS k N (.exp e) sc st = true) : ∃ x pos, st = .Expr x pos ∧ (noComp x && chkE k N e sc x) = true := by
  cases st <;> first | (cases h; done) | exact ⟨_, _, rfl, h⟩
theorem jnv_app {o e : Ex} (h : chkS k N (.app o e) sc st = true) : ∃ x g apos y cpos pos, st = .Expr (.Call (.Attribute x g apos) [y] [] cpos) pos ∧ (decide (g = "append") && noC0 x && nostar y && (apos.endLine == cpos.line) && chkE k N o sc x && chkE k N e sc y) = true := by
  cases st <;> first | (cases h; done) | skip
  rename_i x pos
  cases x <;> first | (cases h; done) | skip
  rename_i f xs kws cpos
  cases f <;> first | (cases h; done) | skip
  rcases xs with _ | ⟨y, _ | ⟨y2, xs⟩⟩ <;> first | (cases h; done) | skip
  cases kws <;> first | (cases h; done) | exact ⟨_, _, _, _, _, _, rfl, h⟩
theorem jnv_ext {o e : Ex} (h : chkS k N (.ext o e) sc st = true) : ∃ x g apos y cpos pos, st = .Expr (.Call (.Attribute x g apos) [y] [] cpos) pos ∧ (decide (g = "extend") && noC0 x && nostar y && (apos.endLine == cpos.line) && chkE k N o sc x && chkE k N e sc y) = true := by
  cases st <;> first | (cases h; done) | skip
  rename_i x pos
  cases x <;> first | (cases h; done) | skip
  rename_i f xs kws cpos
  cases f <;> first | (cases h; done) | skip
  rcases xs with _ | ⟨y, _ | ⟨y2, xs⟩⟩ <;> first | (cases h; done) | skip
  cases kws <;> first | (cases h; done) | exact ⟨_, _, _, _, _, _, rfl, h⟩
theorem jnv_ret {e : Ex} (h : chkS k N (.ret e) sc st = true) : ∃ x pos, st = .Return (some x) pos ∧ chkE k N e sc x = true := by
  cases st <;> first | (cases h; done) | skip
  rename_i x pos
  cases x <;> first | (cases h; done) | exact ⟨_, _, rfl, h⟩
theorem jnv_ret0 (h : chkS k N .ret0 sc st = true) : ∃ pos, st = .Return none pos := by
  cases st <;> first | (cases h; done) | skip
  rename_i x pos
  cases x <;> first | (cases h; done) | exact ⟨_, rfl⟩
theorem jnv_ife {c : Ex} {a b : Sxs} (h : chkS k N (.ife c a b) sc st = true) : ∃ x ys zs pos, st = .If x ys zs pos ∧ (tst c && chkE k N c sc x && chkB k N a sc ys && chkB k N b sc zs) = true := by
  cases st <;> first | (cases h; done) | exact ⟨_, _, _, _, rfl, h⟩
theorem jnv_for {tg : Tg} {it : Mp.It} {b : Sxs} (h : chkS k N (.forr tg it b) sc st = true) : ∃ t i ys pos, st = .For t i ys [] pos ∧ (tgB N tg t (ownOf N tg) && ((ownOf N tg).all fun p => locB sc p.1) && chkI k N it sc i && chkB k N b sc ys) = true := by
  cases st <;> first | (cases h; done) | skip
  rename_i t i ys zs pos
  cases zs <;> first | (cases h; done) | exact ⟨_, _, _, _, rfl, h⟩
theorem jnv_whl {f : Nat} {c : Ex} {b : Sxs} (h : chkS k N (.whl f c b) sc st = true) : ∃ x ys pos, st = .While x ys [] pos ∧ (tst c && chkE k N c sc x && chkB k N b sc ys) = true := by
  cases st <;> first | (cases h; done) | skip
  rename_i x ys zs pos
  cases zs <;> first | (cases h; done) | exact ⟨_, _, _, rfl, h⟩
theorem jnv_pas (h : chkS k N .pas sc st = true) : (∃ pos, st = .Pass pos) ∨ ∃ x j p pos, st = .Expr (.Constant (.str x) j p) pos := by
  cases st <;> first | (cases h; done) | skip
  · rename_i x pos
    cases x <;> first | (cases h; done) | skip
    rename_i c j p
    cases c <;> first | (cases h; done) | exact .inr ⟨_, _, _, _, rfl⟩
  · exact .inl ⟨_, rfl⟩
end
/-! ### name = [..], stored at once -/
section
variable {k : Kx} {N : List Str} {n : Nat}
theorem s_lc {fl : Bool} {e : Ex} {tg : Tg} {it : Mp.It} {sc : Scope} {x : Expr} {X : Cx} {i : Nat} {y : Str} {py spos : Pos} (h : chkE k N (.lc fl e tg it) sc x = true) (C : CnS k N n sc X) (hy : N[i]? = some y) (hw : swB sc y py x = true) :
    PS X (.Assign [.Name y py] x spos) (tS (callN k.T n) X.K (.asg i (.lc fl e tg it))) := by
  replace h := inv_lc h
  obtain ⟨u, t, it', a, scope, pos, rfl, h⟩ := h
  simp only [Bool.and_eq_true, decide_eq_true_eq] at h
  obtain ⟨⟨⟨⟨⟨h1, h2⟩, h3⟩, h4⟩, h5⟩, h6⟩ := h
  subst h1
  have hl := loc_blk h3
  have nd : X.N.Nodup := by rw [C.c.hN]; exact C.c.nd
  have hsw := sw_lc (elt := u) (gs := [⟨t, it', [], 0⟩]) (scope := scope) (pos := pos) (py := py) (x := y) (l := spos.line) C.c.hsc C.kind
  rw [hw] at hsw
  have hloc : X.env.scope.names.lookup y = some .local := by
    unfold swB at hw
    simp only [Bool.and_eq_true, decide_eq_true_eq] at hw
    rw [C.c.hsc]
    exact hw.1.1
  have q := ps_setLc (pos := pos) (elt := u) (te := tE (callN k.T n) X.K e) (g := gOf X.K tg) (tt := tYes) (i := i) C.c.calm nd (by rw [C.c.hN]; exact hy) hloc hsw (sndI it sc t it' X h5 C.c) (by rw [C.c.hN, C.c.hsc]; exact blkOk_by h4)
    (fun s H D cl fp => sg_ok (X := X.blk s H scope (compEnvC scope cl D X.env) fp) C.c.hN C.c.nd C.c.calm h2 (by
      show ∀ p ∈ ownOf N tg, Loc (relS scope X.env.scope) p.1 ∧ ((scope.names.lookup p.1 == some .cell) = true ∨ (relS scope X.env.scope).names.lookup p.1 = some .local)
      rw [C.c.hsc]; exact hl))
    (fun s H D cl fp => pts_nil) (fun s H D cl fp => (sndE e _ u _ h6 (C.c.blk s H D cl fp)).1) (folded_set (it_noSet h5))
  rw [own_slots] at q
  exact psI q fun D σ H h => lc_read (fl := fl) σ H _ (asg_core (ea := .lc fl e tg it) D σ H h)
theorem s_lci {fl : Bool} {e : Ex} {tg : Tg} {it : Mp.It} {c : Ex} {sc : Scope} {x : Expr} {X : Cx} {i : Nat} {y : Str} {py spos : Pos} (h : chkE k N (.lci fl e tg it c) sc x = true) (C : CnS k N n sc X) (hy : N[i]? = some y) (hw : swB sc y py x = true) :
    PS X (.Assign [.Name y py] x spos) (tS (callN k.T n) X.K (.asg i (.lci fl e tg it c))) := by
  replace h := inv_lci h
  obtain ⟨u, t, it', w, a, scope, pos, rfl, h⟩ := h
  simp only [Bool.and_eq_true, decide_eq_true_eq] at h
  obtain ⟨⟨⟨⟨⟨⟨⟨h1, h2⟩, h3⟩, h4⟩, h5⟩, h7⟩, h8⟩, h6⟩ := h
  subst h1
  have hl := loc_blk h3
  have nd : X.N.Nodup := by rw [C.c.hN]; exact C.c.nd
  have hsw := sw_lc (elt := u) (gs := [⟨t, it', [w], 0⟩]) (scope := scope) (pos := pos) (py := py) (x := y) (l := spos.line) C.c.hsc C.kind
  rw [hw] at hsw
  have hloc : X.env.scope.names.lookup y = some .local := by
    unfold swB at hw
    simp only [Bool.and_eq_true, decide_eq_true_eq] at hw
    rw [C.c.hsc]
    exact hw.1.1
  have q := ps_setLc (pos := pos) (elt := u) (ifs := [w]) (te := tE (callN k.T n) X.K e) (g := gOf X.K tg) (tt := tT (callN k.T n) X.K c) (i := i) C.c.calm nd (by rw [C.c.hN]; exact hy) hloc hsw (sndI it sc t it' X h5 C.c) (by rw [C.c.hN, C.c.hsc]; exact blkOk_by h4)
    (fun s H D cl fp => sg_ok (X := X.blk s H scope (compEnvC scope cl D X.env) fp) C.c.hN C.c.nd C.c.calm h2 (by
      show ∀ p ∈ ownOf N tg, Loc (relS scope X.env.scope) p.1 ∧ ((scope.names.lookup p.1 == some .cell) = true ∨ (relS scope X.env.scope).names.lookup p.1 = some .local)
      rw [C.c.hsc]; exact hl))
    (fun s H D cl fp => pts_one ((sndE c _ w _ h8 (C.c.blk s H D cl fp)).2 h7)) (fun s H D cl fp => (sndE e _ u _ h6 (C.c.blk s H D cl fp)).1) (folded_set (it_noSet h5))
  rw [own_slots] at q
  exact psI q fun D σ H h => lci_read (fl := fl) σ H _ (asg_core (ea := .lci fl e tg it c) D σ H h)
theorem s_lcv {e : Ex} {tg : Tg} {j : Nat} {sc : Scope} {x : Expr} {X : Cx} {i : Nat} {y : Str} {py spos : Pos} (h : chkE k N (.lcv e tg j) sc x = true) (C : CnS k N n sc X) (hy : N[i]? = some y) (hw : swB sc y py x = true) :
    PS X (.Assign [.Name y py] x spos) (tS (callN k.T n) X.K (.asg i (.lcv e tg j))) := by
  replace h := inv_lcv h
  obtain ⟨u, t, v, vp, a, scope, pos, rfl, h⟩ := h
  simp only [Bool.and_eq_true, decide_eq_true_eq] at h
  obtain ⟨⟨⟨⟨⟨h1, h2⟩, h3⟩, h4⟩, h5⟩, h6⟩ := h
  subst h1
  have hl := loc_blk h3
  have nd : X.N.Nodup := by rw [C.c.hN]; exact C.c.nd
  have hsw := sw_lc (elt := u) (gs := [⟨t, .Name v vp, [], 0⟩]) (scope := scope) (pos := pos) (py := py) (x := y) (l := spos.line) C.c.hsc C.kind
  rw [hw] at hsw
  have hloc : X.env.scope.names.lookup y = some .local := by
    unfold swB at hw
    simp only [Bool.and_eq_true, decide_eq_true_eq] at hw
    rw [C.c.hsc]
    exact hw.1.1
  have hv : PE X (.Name v vp) (tE (callN k.T n) X.K (.var j)) := se_var (by rw [C.c.hN]; exact h5.1.1) (by rw [C.c.hsc]; exact vis_of h5.1.2) h5.2
  have q := ps_setLc (pos := pos) (elt := u) (te := tE (callN k.T n) X.K e) (g := gOf X.K tg) (tt := tYes) (i := i) C.c.calm nd (by rw [C.c.hN]; exact hy) hloc hsw (pi_list (tg := t) hv) (by rw [C.c.hN, C.c.hsc]; exact blkOk_by h4)
    (fun s H D cl fp => sg_ok (X := X.blk s H scope (compEnvC scope cl D X.env) fp) C.c.hN C.c.nd C.c.calm h2 (by
      show ∀ p ∈ ownOf N tg, Loc (relS scope X.env.scope) p.1 ∧ ((scope.names.lookup p.1 == some .cell) = true ∨ (relS scope X.env.scope).names.lookup p.1 = some .local)
      rw [C.c.hsc]; exact hl))
    (fun s H D cl fp => pts_nil) (fun s H D cl fp => (sndE e _ u _ h6 (C.c.blk s H D cl fp)).1)
  rw [own_slots] at q
  exact psI q fun D σ H h => lcv_read σ H _ (asg_core (ea := .lcv e tg j) D σ H h)
theorem swB_lc {e : Ex} {sc sc' : Scope} {x : Expr} {y : Str} {py : Pos} (h : chkE k N e sc x = true) (hw : swB sc' y py x = true) : (∃ fl e' tg it, e = .lc fl e' tg it) ∨ (∃ fl e' tg it c, e = .lci fl e' tg it c) ∨ ∃ e' tg j, e = .lcv e' tg j := by
  cases x <;> first | (cases hw; done) | skip
  cases e with
  | lc fl e' tg it => exact .inl ⟨_, _, _, _, rfl⟩
  | lci fl e' tg it c => exact .inr (.inl ⟨_, _, _, _, _, rfl⟩)
  | lcv e' tg j => exact .inr (.inr ⟨_, _, _, rfl⟩)
  | dic ks es =>
    cases ks with
    | nil => obtain ⟨pos, _, h⟩ := inv_dic0 h; cases h
    | cons k1 ks => obtain ⟨_, _, _, _, h, _⟩ := inv_dic h; cases h
  | _ => cases h
theorem s_asg {i : Nat} {e : Ex} {sc : Scope} {x : Expr} {X : Cx} {y : Str} {py spos : Pos} (h : chkE k N e sc x = true) (C : CnS k N n sc X) (hy : N[i]? = some y) (hl : locB sc y = true) : PS X (.Assign [.Name y py] x spos) (tS (callN k.T n) X.K (.asg i e)) := by
  cases hw : swB sc y py x with
  | true =>
    rcases swB_lc h hw with ⟨fl, e', tg, it, rfl⟩ | ⟨fl, e', tg, it, c, rfl⟩ | ⟨e', tg, j, rfl⟩
    · exact s_lc h C hy hw
    · exact s_lci h C hy hw
    · exact s_lcv h C hy hw
  | false =>
    have hs : swapsWith x (some (.Name y py)) spos.line X.env = pure false := by
      cases x with
      | ListComp elt gs scope pos => rw [sw_lc C.c.hsc C.kind, hw]
      | SetComp elt gs scope pos => cases e with
        | dic ks es =>
          cases ks with
          | nil => obtain ⟨pos, _, h⟩ := inv_dic0 h; cases h
          | cons k1 ks => obtain ⟨_, _, _, _, h, _⟩ := inv_dic h; cases h
        | _ => cases h
      | DictComp elt gs scope pos => cases e with
        | dic ks es =>
          cases ks with
          | nil => obtain ⟨pos, _, h⟩ := inv_dic0 h; cases h
          | cons k1 ks => obtain ⟨_, _, _, _, h, _⟩ := inv_dic h; cases h
        | _ => cases h
      | _ => rfl
    exact psI (ps_set (by rw [C.c.hN]; exact C.c.nd) (by rw [C.c.hN]; exact hy) (by rw [C.c.hsc]; exact locB_of hl) (sndE e sc x X h C.c).1 hs (.inl (C.fnT _))) asg_core
end
end Mp
-- Mp18
set_option Elab.async false
set_option linter.all false
set_option maxRecDepth 100000
set_option maxHeartbeats 4000000
namespace Mp
open PySem PySem.Spec PyProof.Rows L2
section
variable {k : Kx} {N : List Str} {n : Nat}
variable (k N n) in
def M4 (s : Sx) : Prop := ∀ (sc : Scope) (st : Stmt) (X : Cx), chkS k N s sc st = true → CnS k N n sc X → PS X st (tS (callN k.T n) X.K s)
variable (k N n) in
def M5 (s : Sxs) : Prop := ∀ (sc : Scope) (st : List Stmt) (X : Cx), chkB k N s sc st = true → CnS k N n sc X → PSs X st (tB (callN k.T n) X.K s)
theorem d_asg (i : Nat) (e : Ex) : M4 k N n (.asg i e) := by
  intro sc st X h C
  replace h := jnv_asg h
  obtain ⟨x, py, v, pos, rfl, h⟩ := h
  simp only [Bool.and_eq_true, decide_eq_true_eq] at h
  exact s_asg h.2 C h.1.1 h.1.2
theorem d_unp (is : List Nat) (e : Ex) : M4 k N n (.unp is e) := by
  intro sc st X h C
  replace h := jnv_unp h
  obtain ⟨t, v, pos, rfl, h⟩ := h
  simp only [Bool.and_eq_true] at h
  obtain ⟨⟨⟨⟨h1, h2⟩, h3⟩, h4⟩, h5⟩ := h
  have a1 : (assignEach [t] X.env).map (·.2) = [assign t X.env] := by
    cases t <;> first | rfl | (cases h3; done)
  have a2 : swapsWithSole [t] v pos.line X.env = pure false := sw_no h1
  exact ss_unp (sndE e sc v X h5 C.c).1 (sg_ok C.c.hN C.c.nd C.c.calm h3 (C.tg h4)) a2 (ss_no h2) a1
theorem asg_sub {x y : Expr} {p : Pos} {X : Cx} (h : noSl y = true) : ∀ v, assign (.Subscript x y p) X.env v = (do
      let ov ← holding [v] (eval x X.env)
      let iv ← holding [v, ov] (eval y X.env)
      standAt p
      holding [v, ov, iv] (setItem ov iv v)
      release [v, ov, iv] []) := by
  intro v
  cases y <;> first | rfl | (cases h; done)
theorem d_sti (o i e : Ex) : M4 k N n (.sti o i e) := by
  intro sc st X h C
  replace h := jnv_sti h
  obtain ⟨x, y, p, v, pos, rfl, h⟩ := h
  simp only [Bool.and_eq_true] at h
  obtain ⟨⟨⟨⟨h1, h2⟩, h3⟩, h4⟩, h5⟩ := h
  have po := (sndE o sc x X h3 C.c).1
  have pi := (sndE i sc y X h4 C.c).1
  have pv := (sndE e sc v X h5 C.c).1
  have e1 : swapsWith v (some (.Subscript x y p)) pos.line X.env = pure false := sw_sub
  have e2 : swapsWithSole [.Subscript x y p] v pos.line X.env = pure false := e1
  have q1 := ps_dput (pos := pos) C.c.u1 po pi pv e1
  have q2 := ps_asg (pos := pos) pv (pg_sub (pos := p) po pi set_list (asg_sub h1)) e2 (ss_no h2) rfl
  exact psI (psOr q1 q2) sti_read
theorem d_exp (e : Ex) : M4 k N n (.exp e) := by
  intro sc st X h C
  replace h := jnv_exp h
  obtain ⟨x, pos, rfl, h⟩ := h
  simp only [Bool.and_eq_true] at h
  exact ss_exp (sndE e sc x X h.2 C.c).1 (sw_no h.1)
theorem d_app (o e : Ex) : M4 k N n (.app o e) := by
  intro sc st X h C
  replace h := jnv_app h
  obtain ⟨x, g, apos, y, cpos, pos, rfl, h⟩ := h
  simp only [Bool.and_eq_true, decide_eq_true_eq] at h
  obtain ⟨⟨⟨⟨⟨h1, h2⟩, h3⟩, h4⟩, h5⟩, h6⟩ := h
  subst h1
  exact ss_app (sndE o sc x X h5 C.c).1 (sndE e sc y X h6 C.c).1 h2 h3 h4
theorem d_ext (o e : Ex) : M4 k N n (.ext o e) := by
  intro sc st X h C
  replace h := jnv_ext h
  obtain ⟨x, g, apos, y, cpos, pos, rfl, h⟩ := h
  simp only [Bool.and_eq_true, decide_eq_true_eq] at h
  obtain ⟨⟨⟨⟨⟨h1, h2⟩, h3⟩, h4⟩, h5⟩, h6⟩ := h
  subst h1
  exact ss_ext (sndE o sc x X h5 C.c).1 (sndE e sc y X h6 C.c).1 h2 h3 h4
theorem d_ret (e : Ex) : M4 k N n (.ret e) := by
  intro sc st X h C
  replace h := jnv_ret h
  obtain ⟨x, pos, rfl, h⟩ := h
  exact ss_ret (sndE e sc x X h C.c).1
theorem d_ret0 : M4 k N n .ret0 := by
  intro sc st X h C
  obtain ⟨pos, rfl⟩ := jnv_ret0 h
  exact ss_ret0
theorem d_ife (c : Ex) (a b : Sxs) (iha : M5 k N n a) (ihb : M5 k N n b) : M4 k N n (.ife c a b) := by
  intro sc st X h C
  replace h := jnv_ife h
  obtain ⟨x, ys, zs, pos, rfl, h⟩ := h
  simp only [Bool.and_eq_true] at h
  obtain ⟨⟨⟨h1, h2⟩, h3⟩, h4⟩ := h
  exact ss_ife ((sndE c sc x X h2 C.c).2 h1) (iha sc ys X h3 C) (ihb sc zs X h4 C)
theorem d_for (tg : Tg) (it : Mp.It) (b : Sxs) (ihb : M5 k N n b) : M4 k N n (.forr tg it b) := by
  intro sc st X h C
  replace h := jnv_for h
  obtain ⟨t, i, ys, pos, rfl, h⟩ := h
  simp only [Bool.and_eq_true] at h
  obtain ⟨⟨⟨h1, h2⟩, h3⟩, h4⟩ := h
  exact psI (ps_for C.own C.c.calm (sndI it sc t i X h3 C.c) (sg_ok C.c.hN C.c.nd C.c.calm h1 (C.tg h2)) (ihb sc ys X h4 C) (folded_set (it_noSet h3))) for_core
theorem d_whl (f : Nat) (c : Ex) (b : Sxs) (ihb : M5 k N n b) : M4 k N n (.whl f c b) := by
  intro sc st X h C
  replace h := jnv_whl h
  obtain ⟨x, ys, pos, rfl, h⟩ := h
  simp only [Bool.and_eq_true] at h
  obtain ⟨⟨h1, h2⟩, h3⟩ := h
  exact psI (ps_while C.own ((sndE c sc x X h2 C.c).2 h1) (ihb sc ys X h3 C)) whl_core
theorem d_pas : M4 k N n .pas := by
  intro sc st X h C
  rcases jnv_pas h with ⟨pos, rfl⟩ | ⟨x, j, p, pos, rfl⟩
  · exact ss_pas ps_pass
  · exact ss_pas ps_doc
theorem d_nil : M5 k N n .nil := by
  intro sc st X h C
  cases st <;> first | (cases h; done) | exact sb_nil
theorem d_cons (s : Sx) (b : Sxs) (ihs : M4 k N n s) (ihb : M5 k N n b) : M5 k N n (.cons s b) := by
  intro sc st X h C
  cases st with
  | nil => cases h
  | cons x xs =>
    have h : (chkS k N s sc x && chkB k N b sc xs) = true := h
    rw [Bool.and_eq_true] at h
    exact sb_cons (ihs sc x X h.1 C) (ihb sc xs X h.2 C)
theorem sndB (b : Sxs) : M5 k N n b := Sxs.rec (motive_1 := M4 k N n) (motive_2 := M5 k N n) d_asg d_unp d_sti d_exp d_app d_ext d_ret d_ret0 d_ife d_for d_whl d_pas d_nil d_cons b
end

/-! ## functions -/
section
variable {K : PySem.W.Frag} {H H' : Hp} {m m' : List Addr} {u u' : Mem} {PX : Str → List PyData → Mem → Prop}
theorem World.pick (W : World K H m u) {n : Nat} {c : Cell} {a : Addr} (e1 : u[n]? = some c) (e2 : m[n]? = some a) {j : Nat} (hj : j ≤ n) :
    World K H (m.take j ++ [a]) (u.take j ++ [c]) ∧ Gx H (Live m u) H (Live (m.take j ++ [a]) (u.take j ++ [c])) ∧ (m.take j ++ [a])[j]? = some a := by
  have hn : n < m.length := (List.getElem?_eq_some_iff.mp e2).1
  have hm : (m.take j).length = j := by rw [List.length_take]; omega
  have hu : (u.take j).length = j := by rw [List.length_take, ← W.len]; omega
  have at1 : ∀ {i : Nat} {x : Addr}, (m.take j ++ [a])[i]? = some x → (i < j ∧ m[i]? = some x) ∨ (i = j ∧ x = a) := by
    intro i x e
    by_cases hi : i < j
    · rw [List.getElem?_append_left (by rw [hm]; exact hi), List.getElem?_take_of_lt hi] at e
      exact .inl ⟨hi, e⟩
    · rw [List.getElem?_append_right (by rw [hm]; omega), hm] at e
      cases hk : i - j with
      | zero => rw [hk] at e; cases e; exact .inr ⟨by omega, rfl⟩
      | succ q => rw [hk] at e; cases e
  have at2 : ∀ {i : Nat} {x : Cell}, (u.take j ++ [c])[i]? = some x → (i < j ∧ u[i]? = some x) ∨ (i = j ∧ x = c) := by
    intro i x e
    by_cases hi : i < j
    · rw [List.getElem?_append_left (by rw [hu]; exact hi), List.getElem?_take_of_lt hi] at e
      exact .inl ⟨hi, e⟩
    · rw [List.getElem?_append_right (by rw [hu]; omega), hu] at e
      cases hk : i - j with
      | zero => rw [hk] at e; cases e; exact .inr ⟨by omega, rfl⟩
      | succ q => rw [hk] at e; cases e
  have lk : ∀ b, Live (m.take j ++ [a]) (u.take j ++ [c]) b → Live m u b := by
    rintro b ⟨i, d, h1, h2, h3⟩
    rcases at1 h1 with ⟨l1, h1⟩ | ⟨l1, rfl⟩
    · rcases at2 h2 with ⟨l2, h2⟩ | ⟨l2, _⟩
      · exact ⟨i, d, h1, h2, h3⟩
      · omega
    · rcases at2 h2 with ⟨l2, h2⟩ | ⟨l2, rfl⟩
      · omega
      · exact ⟨n, d, e2, e1, h3⟩
  have g : Gx H (Live m u) H (Live (m.take j ++ [a]) (u.take j ++ [c])) := fun b o e nb => ⟨e, fun l => nb (lk b l)⟩
  refine ⟨⟨by simp [hm, hu], ?_, fun i d b h1 h2 => ?_⟩, g, by rw [List.getElem?_append_right (by rw [hm]; exact Nat.le_refl _), hm, Nat.sub_self]; rfl⟩
  · rw [List.nodup_append]
    refine ⟨W.nd.sublist (List.take_sublist _ _), by simp, fun x hx y hy => ?_⟩
    have ey : y = a := by simpa using hy
    rw [ey]
    intro exa
    rw [exa] at hx
    obtain ⟨i, hi, ei⟩ := List.mem_iff_getElem.mp hx
    have hij : i < j := by rw [hm] at hi; exact hi
    have e3 : m[i]? = some a := by
      rw [← List.getElem?_take_of_lt hij]
      exact List.getElem?_eq_some_iff.mpr ⟨hi, ei⟩
    have := nd_ix W.nd e3 e2
    omega
  · have fin : ∀ {q : Nat}, u[q]? = some d → m[q]? = some b → RepC K (Live (m.take j ++ [a]) (u.take j ++ [c])) H d b := fun {q} q1 q2 => by
      have r : RepC K (Live m u) H d b := W.cell q d b q1 q2
      obtain ⟨o, eo⟩ := r.there
      exact r.go g W.lv (fun _ => rfl) fun _ => ⟨o, eo⟩
    rcases at2 h1 with ⟨l1, h1⟩ | ⟨l1, rfl⟩
    · rcases at1 h2 with ⟨l2, h2⟩ | ⟨l2, _⟩
      · exact fin h1 h2
      · omega
    · rcases at1 h2 with ⟨l2, h2⟩ | ⟨l2, rfl⟩
      · omega
      · exact fin e1 e2
theorem fin_ok {raw : Bool} {fl : Fl} {Q : VK} (W0 : World K H m u) (D : Ends) (hD : D = { nx := fun _ H' => Q .non H', rt := Q }) (vx : VX PX) {u1 : Mem} (p : Post PX (fin raw u.length fl u1) (Beh K H m u Q)) : FlP K H m u D fl u1 := by
  subst hD
  cases fl with
  | nx r' =>
    intro m' H' σ' W' G' e'
    have p : Beh K H m u Q (.d .none) (u1.take u.length) := p
    obtain ⟨W2, G2⟩ := G'.take W0 W' (Nat.le_refl _)
    exact p _ H' _ W2 G2 .non
  | rt v =>
    show Beh K H m u Q v u1
    intro m' H' x W' G' rx
    have pure_ : Post PX ((fz v u1).bind fun x m2 => (.ok (.d x) (m2.take u.length) : R Vl)) (Beh K H m u Q) → Q x H' := fun p => by
      have p2 := Post.bind p
      cases e : fz v u1 with
      | no => rw [e] at p2; exact False.elim p2
      | ex c fs m => rw [e] at p2; exact (vx _ _ _ p2).elim
      | ok d u2 =>
        rw [e] at p2
        have p2 : Beh K H m u Q (.d d) (u2.take u.length) := p2
        obtain ⟨W3, G3, r3⟩ := fz_ok (PX := PX) W' rx e
        obtain ⟨W4, G4⟩ := (G'.trans G3).take W0 W3 (Nat.le_refl _)
        obtain ⟨_, g5⟩ := W3.take u.length
        exact p2 _ H' x W4 G4 (r3.go g5 W3.lv)
    cases v with
    | d d => cases raw <;> exact pure_ p
    | s ns => cases raw <;> exact pure_ p
    | r n =>
      cases raw with
      | false => exact pure_ p
      | true =>
        have p : Post PX (if n < u.length then R.ok (.r n) (u1.take u.length) else match u1[n]? with
          | some c => R.ok (.r u.length) (u1.take u.length ++ [c])
          | none => .no) (Beh K H m u Q) := p
        obtain ⟨a, ea, rfl⟩ := rx
        split at p
        · rename_i hn
          obtain ⟨W2, G2⟩ := G'.take W0 W' (Nat.le_refl _)
          exact p _ H' _ W2 G2 ⟨a, by rw [List.getElem?_take_of_lt hn]; exact ea, rfl⟩
        · rename_i hn
          split at p
          · rename_i c ec
            obtain ⟨W2, g2, e2⟩ := W'.pick ec ea (j := u.length) (by omega)
            have ml : m.length = u.length := W0.len
            refine p (m'.take u.length ++ [a]) H' _ W2 ⟨fun i b e => ?_, G'.gx.trans g2⟩ ⟨a, e2, rfl⟩
            have hi : i < u.length := by rw [← ml]; exact (List.getElem?_eq_some_iff.mp e).1
            have e' := G'.pre _ _ e
            have hi' : i < m'.length := (List.getElem?_eq_some_iff.mp e').1
            rw [List.getElem?_append_left (by rw [List.length_take]; omega), List.getElem?_take_of_lt hi]
            exact e'
          · exact False.elim p
end
/-- what the head tells of a def, and that my text is the text -/
structure DefOk (K : PySem.W.Frag) (mg : Str → Option Value) (k : Kx) (fn : Fn) : Prop where
  ex : ∃ (a : Addr) (fd : FuncData) (ps : List Str) (x qual : Str) (params : Arguments) (body : List Stmt) (scope : Scope) (N : List Str), FunD K x qual params body scope [] [] a fd ∧ C8.scC N ps scope = true ∧
    ps.length = fn.np ∧ N.length = fn.ns ∧ chkB k N fn.body scope body = true ∧ mg fn.py = some (.ref a) ∧ PySem.W.keepIn K (.ref a) = true ∧ Binds K fd ps []
theorem paired_len {α β : Type} {P : α → β → Prop} : ∀ {as : List α} {bs : List β}, Paired P as bs → as.length = bs.length
  | _, _, .nil => rfl
  | _, _, .cons _ t => congrArg Nat.succ (paired_len t)
theorem start_en {K : PySem.W.Frag} {H : Hp} {m : List Addr} {u : Mem} {N : List Str} {args : List Vl} {vs : List V} (h : Paired (RepV K H m u) args vs) (j : Nat) (hj : j = N.length - vs.length) : RepEn K H m u (args.map some ++ List.replicate j none) (L2.start N vs) := by
  have hl := paired_len h
  refine ⟨by simp [L2.start, hl, hj], fun i v e => ?_⟩
  have hi : i < args.length := by
    rcases Nat.lt_or_ge i args.length with h | h
    · exact h
    · rw [List.getElem?_append_right (by simpa using h)] at e
      have := List.mem_of_getElem? e
      rw [List.mem_replicate] at this
      cases this.2
  rw [List.getElem?_append_left (by simpa using hi), List.getElem?_map] at e
  have aux : ∀ {as : List Vl} {bs : List V} {i : Nat} {v : Vl}, Paired (RepV K H m u) as bs → as[i]? = some v → ∃ x, bs[i]? = some x ∧ RepV K H m u v x := by
    intro as bs i v hp
    induction hp generalizing i with
    | nil => intro e; simp at e
    | cons r t ih =>
      intro e
      cases i with
      | zero => simp at e; subst e; exact ⟨_, rfl, r⟩
      | succ i => exact ih (by simpa using e)
  cases ha : args[i]? with
  | none => rw [ha] at e; cases e
  | some w =>
    rw [ha] at e
    cases e
    obtain ⟨x, h1, h2⟩ := aux h ha
    refine ⟨x, ?_, h2⟩
    unfold L2.start
    rw [List.getElem?_append_left (by rw [List.length_map, ← hl]; exact hi), List.getElem?_map, h1]
    rfl
section
variable {P : Program} {w : PySem.World} {K : PySem.W.Frag} {mg : Str → Option Value} {base : Heap} {k : Kx} {f : Str} {fn : Fn} {a : Addr} {fd : FuncData} {ps : List Str} {x qual : Str} {params : Arguments} {body : List Stmt} {scope : Scope} {N : List Str}
theorem fn_zero : FnOk P w K mg base CX0 0 a fd ps (spF K k.T 0 f) :=
  ⟨fun vs H Q E ⟨m, u, args, PX, vx, W, pr, p⟩ => False.elim p, fun A outer s H args us vs Q E hr he hbn hv ⟨m, u, as, PX, vx, W, pr, p⟩ => False.elim p⟩
theorem fn_step {n : Nat} (IH : ∀ (f : Str) (fn : Fn), k.T f = some fn → k.Pr f = true → ∃ a fd ps, FnOk P w K mg base CX0 n a fd ps (spF K k.T n f) ∧ mg fn.py = some (.ref a) ∧ PySem.W.keepIn K (.ref a) = true ∧ Binds K fd ps [])
    (hF : ∀ x, k.Fr x = true → mg x = none) (ht : k.T f = some fn) (F : FunD K x qual params body scope [] [] a fd) (S : C8.scC N ps scope = true) (l1 : ps.length = fn.np) (l2 : N.length = fn.ns) (hc : chkB k N fn.body scope body = true) : FnOk P w K mg base CX0 (n + 1) a fd ps (spF K k.T (n + 1) f) := by
  have S := C8.fnScope_by S
  have run : ∀ args u, callN k.T (n + 1) f args u = runF (callN k.T n) fn args u := fun args u => by
    show (match k.T f with | some fn => runF (callN k.T n) fn args u | none => .no) = _
    rw [ht]
  have len : ∀ vs H Q E, spF K k.T (n + 1) f vs H Q E → vs.length = ps.length := fun vs H Q E ⟨m, u, args, PX, vx, W, pr, p⟩ => by
    rw [run] at p
    unfold runF at p
    split at p
    · rename_i h
      rw [← paired_len pr, h, l1]
    · exact False.elim p
  refine F.ok S len fun cdv A outer s H vs Q E hr hsp => ?_
  have hl := len vs H Q E hsp
  obtain ⟨m, u, args, PX, vx, W, pr, p⟩ := hsp
  rw [run] at p
  unfold runF at p
  split at p
  · rename_i h
    refine ⟨tB (callN k.T n) K fn.body, (sndB (k := k) (N := N) (n := n) fn.body scope body (cxOf CX0 P w K mg base N qual scope a cdv A outer s H E).nox hc ⟨⟨rfl, S.nd, rfl, rfl, hr, hF, IH⟩, fun _ => rfl, S.kind, PassesOwn.never⟩).nox, ?_⟩
    refine ⟨m, u, _, PX, ⟨W, start_en (N := N) pr (fn.ns - fn.np) (by rw [l2, hl, l1]), vx⟩, (Post.bind p).mono fun fl u1 q => fin_ok W _ rfl vx q⟩
  · exact False.elim p
theorem fns_ok (hD : ∀ f fn, k.T f = some fn → k.Pr f = true → DefOk K mg k fn) (hF : ∀ x, k.Fr x = true → mg x = none) :
    ∀ (n : Nat) (f : Str) (fn : Fn), k.T f = some fn → k.Pr f = true → ∃ a fd ps, FnOk P w K mg base CX0 n a fd ps (spF K k.T n f) ∧ mg fn.py = some (.ref a) ∧ PySem.W.keepIn K (.ref a) = true ∧ Binds K fd ps []
  | 0, f, fn, ht, hp => by
    obtain ⟨a, fd, ps, x, qual, params, body, scope, N, F, S, l1, l2, hc, hm, hk, hb⟩ := (hD f fn ht hp).ex
    exact ⟨a, fd, ps, fn_zero, hm, hk, hb⟩
  | n + 1, f, fn, ht, hp => by
    obtain ⟨a, fd, ps, x, qual, params, body, scope, N, F, S, l1, l2, hc, hm, hk, hb⟩ := (hD f fn ht hp).ex
    exact ⟨a, fd, ps, fn_step (fns_ok hD hF n) hF ht F S l1 l2 hc, hm, hk, hb⟩
theorem fn_ok1 (hD : ∀ f fn, k.T f = some fn → k.Pr f = true → DefOk K mg k fn) (hF : ∀ x, k.Fr x = true → mg x = none) (ht : k.T f = some fn) (hp : k.Pr f = true) (F : FunD K x qual params body scope [] [] a fd) (S : C8.scC N ps scope = true)
    (l1 : ps.length = fn.np) (l2 : N.length = fn.ns) (hc : chkB k N fn.body scope body = true) (n : Nat) : FnOk P w K mg base CX0 n a fd ps (spF K k.T n f) := by
  cases n with
  | zero => exact fn_zero
  | succ n => exact fn_step (fns_ok hD hF n) hF ht F S l1 l2 hc
end
end Mp
-- P54
set_option Elab.async false
set_option linter.all false
set_option maxRecDepth 100000
set_option maxHeartbeats 0
namespace Mp
open PySem L2
def F_parts : Fn := ⟨"parts", 1, 2, false, (.cons (.ret (.blt false .tuple (.lci false (.var 1) (.v 1) (.e (.slf (.var 0) (.cst (.int 1)))) (.isi (.var 1) .tuple)))) .nil)⟩
def F_show : Fn := ⟨"show", 1, 4, false, (.cons (.ife (.or (.cons (.cmp .eq (.idx (.var 0) (.cst (.int 0))) (.cst (.str "num"))) (.cons (.cmp .eq (.idx (.var 0) (.cst (.int 0))) (.cst (.str "name"))) .nil))) (.cons (.ret (.blt false .str (.idx (.var 0) (.cst (.int 1))))) .nil) .nil) (.cons (.ife (.cmp .eq (.idx (.var 0) (.cst (.int 0))) (.cst (.str "take"))) (.cons (.ret (.cst (.str "take"))) .nil) .nil) (.cons (.asg 1 (.lst true (.cons (.cst (.str "(")) .nil))) (.cons (.ife (.cmp .ne (.idx (.var 0) (.cst (.int 0))) (.cst (.str "op"))) (.cons (.app (.var 1) (.idx (.var 0) (.cst (.int 0)))) .nil) .nil) (.cons (.ext (.var 1) (.lci false (.blt false .str (.var 2)) (.v 2) (.e (.slf (.var 0) (.cst (.int 1)))) (.not (.isi (.var 2) .tuple)))) (.cons (.ext (.var 1) (.lc false (.call "show" (.cons (.var 3) .nil)) (.v 3) (.e (.call "parts" (.cons (.var 0) .nil))))) (.cons (.ret (.mth .join (.cst (.str " ")) (.cons (.bin .add (.var 1) (.lst false (.cons (.cst (.str ")")) .nil))) .nil))) .nil)))))))⟩
def F_show_program : Fn := ⟨"show_program", 1, 5, false, (.cons (.asg 1 (.lst true .nil)) (.cons (.forr (.t [2, 3, 4]) (.e (.idx (.var 0) (.cst (.int 0)))) (.cons (.app (.var 1) (.mth .join (.cst (.str " ")) (.cons (.bin .add (.bin .add (.lst false (.cons (.var 2) .nil)) (.blt false .list (.var 3))) (.lst false (.cons (.cst (.str ":")) (.cons (.call "show" (.cons (.var 4) .nil)) .nil)))) .nil))) .nil)) (.cons (.ret (.blt false .tuple (.bin .add (.var 1) (.lst false (.cons (.call "show" (.cons (.idx (.var 0) (.cst (.int 1))) .nil)) .nil))))) .nil)))⟩
def F_law_feed_r : Fn := ⟨"_law_feed", 1, 1, true, (.cons (.ret (.dic ["cells", "at", "left"] (.cons (.blt false .list (.slt (.var 0) (.cst (.int 63)))) (.cons (.cst (.int 0)) (.cons (.cst (.int 0)) .nil))))) .nil)⟩
def F_law_draw : Fn := ⟨"_law_draw", 2, 6, false, (.cons (.ife (.cmp .gt (.idx (.var 0) (.cst (.str "left"))) (.cst (.int 0))) (.cons (.asg 5 (.bin .mod (.idx (.var 0) (.cst (.str "left"))) (.var 1))) (.cons (.sti (.var 0) (.cst (.str "left")) (.bin .fdiv (.idx (.var 0) (.cst (.str "left"))) (.var 1))) (.cons (.ret (.var 5)) .nil))) .nil) (.cons (.asg 2 (.idx (.var 0) (.cst (.str "at")))) (.cons (.sti (.var 0) (.cst (.str "at")) (.bin .add (.var 2) (.cst (.int 1)))) (.cons (.asg 3 (.bin .add (.bin .mul (.var 2) (.var 2)) (.cst (.int 7)))) (.cons (.ife (.cmp .ne (.idx (.var 0) (.cst (.str "cells"))) (.lst false .nil)) (.cons (.asg 3 (.idx (.idx (.var 0) (.cst (.str "cells"))) (.bin .mod (.var 2) (.blt false .len (.idx (.var 0) (.cst (.str "cells"))))))) .nil) .nil) (.cons (.ife (.cmp .ge (.var 3) (.bin .pow (.cst (.int 10)) (.cst (.int 18)))) (.cons (.sti (.var 0) (.cst (.str "left")) (.bin .fdiv (.var 3) (.var 1))) (.cons (.ret (.bin .mod (.var 3) (.var 1))) .nil)) .nil) (.cons (.asg 4 (.bin .mod (.bin .mul (.bin .add (.bin .add (.bin .mod (.var 3) (.cst (.int 2147483647))) (.bin .mul (.cst (.int 104729)) (.var 2))) (.cst (.int 1))) (.cst (.int 48271))) (.cst (.int 2147483629)))) (.cons (.asg 4 (.bin .mod (.bin .add (.bin .add (.bin .mul (.var 4) (.var 4)) (.bin .mul (.cst (.int 7919)) (.var 2))) (.cst (.int 5))) (.cst (.int 2147483647)))) (.cons (.asg 4 (.bin .mod (.bin .add (.bin .mul (.var 4) (.cst (.int 69621))) (.var 2)) (.cst (.int 2147483629)))) (.cons (.ret (.bin .mod (.bin .fdiv (.bin .mod (.bin .mul (.var 4) (.var 4)) (.cst (.int 2147483587))) (.cst (.int 64))) (.var 1))) .nil))))))))))⟩
def F_law_value : Fn := ⟨"_law_value", 1, 2, false, (.cons (.asg 1 (.call "_law_draw" (.cons (.var 0) (.cons (.cst (.int 6)) .nil)))) (.cons (.ife (.cmp .eq (.var 1) (.cst (.int 0))) (.cons (.ret (.bin .sub (.cst (.int 999999999)) (.call "_law_draw" (.cons (.var 0) (.cons (.cst (.int 3)) .nil))))) .nil) .nil) (.cons (.ife (.cmp .eq (.var 1) (.cst (.int 1))) (.cons (.ret (.bin .add (.bin .mul (.call "_law_draw" (.cons (.var 0) (.cons (.cst (.int 40000)) .nil))) (.cst (.int 25000))) (.call "_law_draw" (.cons (.var 0) (.cons (.cst (.int 25000)) .nil))))) .nil) .nil) (.cons (.ret (.call "_law_draw" (.cons (.var 0) (.cons (.bin .sub (.bin .mul (.cst (.int 3)) (.var 1)) (.cst (.int 3))) .nil)))) .nil))))⟩
def F_law_spelled : Fn := ⟨"_law_spelled", 2, 4, false, (.cons (.asg 2 (.cst (.str ""))) (.cons (.forr (.v 3) (.rng (.var 1)) (.cons (.asg 2 (.bin .add (.var 2) (.idx (.cst (.str "abcdefghijklmnopqrstuvwxyz")) (.bin .mod (.var 0) (.cst (.int 26)))))) (.cons (.asg 0 (.bin .fdiv (.var 0) (.cst (.int 26)))) .nil))) (.cons (.ret (.var 2)) .nil)))⟩
def F_law_name : Fn := ⟨"_law_name", 2, 9, false, (.cons (.asg 2 (.lst false (.cons (.cst (.str "num")) (.cons (.cst (.str "name")) (.cons (.cst (.str "op")) (.cons (.cst (.str "pick")) (.cons (.cst (.str "let")) (.cons (.cst (.str "set")) (.cons (.cst (.str "say")) (.cons (.cst (.str "take")) .nil)))))))))) (.cons (.asg 2 (.bin .add (.var 2) (.lst false (.cons (.cst (.str "do")) (.cons (.cst (.str "again")) (.cons (.cst (.str "call")) (.cons (.cst (.str "own")) (.cons (.cst (.str "hole")) .nil)))))))) (.cons (.asg 3 (.call "_law_draw" (.cons (.var 0) (.cons (.cst (.int 6)) .nil)))) (.cons (.asg 4 (.bin .add (.cst (.int 1)) (.call "_law_draw" (.cons (.var 0) (.cons (.cst (.int 8)) .nil))))) (.cons (.asg 5 (.bin .add (.bin .mul (.call "_law_draw" (.cons (.var 0) (.cons (.cst (.int 456976)) .nil))) (.cst (.int 456976))) (.call "_law_draw" (.cons (.var 0) (.cons (.cst (.int 456976)) .nil))))) (.cons (.asg 6 (.call "_law_spelled" (.cons (.var 5) (.cons (.var 4) .nil)))) (.cons (.ife (.cmp .eq (.var 3) (.cst (.int 0))) (.cons (.asg 6 (.bin .add (.idx (.var 2) (.call "_law_draw" (.cons (.var 0) (.cons (.cst (.int 13)) .nil)))) (.idx (.var 6) (.cst (.int 0))))) .nil) .nil) (.cons (.ife (.cmp .eq (.var 3) (.cst (.int 3))) (.cons (.asg 6 (.idx (.lst false (.cons (.cst (.str "a")) (.cons (.cst (.str "b")) (.cons (.cst (.str "c")) (.cons (.cst (.str "d")) (.cons (.cst (.str "x")) (.cons (.cst (.str "y")) (.cons (.cst (.str "z")) (.cons (.cst (.str "n")) (.cons (.cst (.str "v")) (.cons (.cst (.str "aa")) (.cons (.cst (.str "ab")) (.cons (.cst (.str "tmp")) .nil))))))))))))) (.call "_law_draw" (.cons (.var 0) (.cons (.cst (.int 12)) .nil))))) .nil) .nil) (.cons (.ife (.and (.cons (.cmp .eq (.var 3) (.cst (.int 1))) (.cons (.cmp .ne (.var 1) (.lst false .nil)) .nil))) (.cons (.asg 6 (.slt (.bin .add (.idx (.var 1) (.call "_law_draw" (.cons (.var 0) (.cons (.blt false .len (.var 1)) .nil)))) (.var 6)) (.bin .add (.cst (.int 1)) (.bin .mod (.var 5) (.cst (.int 8)))))) .nil) .nil) (.cons (.ife (.and (.cons (.cmp .eq (.var 3) (.cst (.int 2))) (.cons (.cmp .ne (.var 1) (.lst false .nil)) .nil))) (.cons (.asg 7 (.idx (.var 1) (.call "_law_draw" (.cons (.var 0) (.cons (.blt false .len (.var 1)) .nil))))) (.cons (.asg 8 (.bin .mod (.var 5) (.blt false .len (.var 7)))) (.cons (.asg 6 (.bin .add (.bin .add (.slt (.var 7) (.var 8)) (.idx (.var 6) (.cst (.int 0)))) (.slf (.var 7) (.bin .add (.var 8) (.cst (.int 1)))))) .nil))) .nil) (.cons (.whl 1000000000 (.or (.cons (.cmp .inn (.var 6) (.var 1)) (.cons (.cmp .inn (.var 6) (.var 2)) .nil))) (.cons (.asg 5 (.bin .add (.var 5) (.cst (.int 1)))) (.cons (.asg 4 (.bin .add (.bin .mod (.var 4) (.cst (.int 8))) (.cst (.int 1)))) (.cons (.asg 6 (.call "_law_spelled" (.cons (.var 5) (.cons (.var 4) .nil)))) .nil)))) (.cons (.ret (.var 6)) .nil))))))))))))⟩
def F_law_names : Fn := ⟨"_law_names", 2, 4, false, (.cons (.asg 2 (.lst true .nil)) (.cons (.forr (.v 3) (.rng (.var 1)) (.cons (.app (.var 2) (.call "_law_name" (.cons (.var 0) (.cons (.var 2) .nil)))) .nil)) (.cons (.ret (.var 2)) .nil)))⟩
def F_law_parts : Fn := ⟨"_law_parts", 1, 2, false, (.cons (.ret (.lci false (.var 1) (.v 1) (.e (.slf (.var 0) (.cst (.int 1)))) (.isi (.var 1) .tuple))) .nil)⟩
def F_law_parts_r : Fn := ⟨"_law_parts", 1, 2, true, (.cons (.ret (.lci true (.var 1) (.v 1) (.e (.slf (.var 0) (.cst (.int 1)))) (.isi (.var 1) .tuple))) .nil)⟩
def F_law_with : Fn := ⟨"_law_with", 2, 3, false, (.cons (.ret (.blt false .tuple (.bin .add (.lci false (.var 2) (.v 2) (.e (.var 0)) (.not (.isi (.var 2) .tuple))) (.var 1)))) .nil)⟩
def F_law_nodes : Fn := ⟨"_law_nodes", 1, 2, false, (.cons (.ret (.bin .add (.cst (.int 1)) (.blt false .sum (.lc false (.call "_law_nodes" (.cons (.var 1) .nil)) (.v 1) (.e (.call "_law_parts" (.cons (.var 0) .nil))))))) .nil)⟩
def F_law_work : Fn := ⟨"_law_work", 2, 4, false, (.cons (.asg 2 (.blt false .sum (.lc false (.call "_law_work" (.cons (.var 3) (.cons (.var 1) .nil))) (.v 3) (.e (.call "_law_parts" (.cons (.var 0) .nil)))))) (.cons (.ife (.cmp .eq (.idx (.var 0) (.cst (.int 0))) (.cst (.str "again"))) (.cons (.ret (.bin .add (.cst (.int 1)) (.bin .mul (.idx (.var 0) (.cst (.int 1))) (.var 2)))) .nil) .nil) (.cons (.ife (.cmp .eq (.idx (.var 0) (.cst (.int 0))) (.cst (.str "call"))) (.cons (.ret (.bin .add (.bin .add (.cst (.int 1)) (.var 2)) (.idx (.var 1) (.idx (.var 0) (.cst (.int 1)))))) .nil) .nil) (.cons (.ret (.bin .add (.cst (.int 1)) (.var 2))) .nil))))⟩
def F_law_right : Fn := ⟨"_law_right", 2, 3, false, (.cons (.ife (.and (.cons (.cmp .eq (.idx (.var 0) (.cst (.int 0))) (.cst (.str "set"))) (.cons (.cmp .inn (.idx (.var 0) (.cst (.int 1))) (.var 1)) .nil))) (.cons (.ret (.cst (.bl false))) .nil) .nil) (.cons (.ife (.cmp .eq (.idx (.var 0) (.cst (.int 0))) (.cst (.str "let"))) (.cons (.ret (.and (.cons (.call "_law_right" (.cons (.idx (.var 0) (.cst (.int 2))) (.cons (.var 1) .nil))) (.cons (.call "_law_right" (.cons (.idx (.var 0) (.cst (.int 3))) (.cons (.bin .add (.var 1) (.lst false (.cons (.idx (.var 0) (.cst (.int 1))) .nil))) .nil))) .nil)))) .nil) .nil) (.cons (.ret (.blt false .all (.lc false (.call "_law_right" (.cons (.var 2) (.cons (.var 1) .nil))) (.v 2) (.e (.call "_law_parts" (.cons (.var 0) .nil)))))) .nil)))⟩
def F_law_leaf : Fn := ⟨"_law_leaf", 3, 5, false, (.cons (.asg 3 (.call "_law_draw" (.cons (.var 0) (.cons (.cst (.int 6)) .nil)))) (.cons (.ife (.and (.cons (.cmp .eq (.var 3) (.cst (.int 0))) (.cons (.idx (.var 1) (.cst (.str "takes"))) .nil))) (.cons (.ret (.tup (.cons (.cst (.str "take")) .nil))) .nil) .nil) (.cons (.asg 4 (.bin .add (.bin .add (.idx (.var 1) (.cst (.str "names"))) (.var 2)) (.var 2))) (.cons (.ife (.or (.cons (.cmp .lt (.var 3) (.cst (.int 3))) (.cons (.cmp .eq (.var 4) (.lst false .nil)) .nil))) (.cons (.ret (.tup (.cons (.cst (.str "num")) (.cons (.call "_law_value" (.cons (.var 0) .nil)) .nil)))) .nil) .nil) (.cons (.ret (.tup (.cons (.cst (.str "name")) (.cons (.idx (.var 4) (.call "_law_draw" (.cons (.var 0) (.cons (.blt false .len (.var 4)) .nil)))) .nil)))) .nil)))))⟩
def F_law_turned : Fn := ⟨"_law_turned", 3, 4, false, (.cons (.ife (.and (.cons (.cmp .inn (.idx (.var 0) (.cst (.int 0))) (.tup (.cons (.cst (.str "name")) (.cons (.cst (.str "set")) .nil)))) (.cons (.cmp .inn (.idx (.var 0) (.cst (.int 1))) (.var 1)) .nil))) (.cons (.asg 0 (.bin .add (.tup (.cons (.idx (.var 0) (.cst (.int 0))) (.cons (.idx (.var 2) (.mth .index (.var 1) (.cons (.idx (.var 0) (.cst (.int 1))) .nil))) .nil))) (.slf (.var 0) (.cst (.int 2))))) .nil) .nil) (.cons (.ret (.call "_law_with" (.cons (.var 0) (.cons (.lc false (.call "_law_turned" (.cons (.var 3) (.cons (.var 1) (.cons (.var 2) .nil)))) (.v 3) (.e (.call "_law_parts" (.cons (.var 0) .nil)))) .nil)))) .nil))⟩
def F_law_spoilt : Fn := ⟨"_law_spoilt", 3, 6, false, (.cons (.ife (.cmp .eq (.var 1) (.cst (.int 0))) (.cons (.ret (.var 2)) .nil) .nil) (.cons (.asg 3 (.call "_law_parts!" (.cons (.var 0) .nil))) (.cons (.asg 1 (.bin .sub (.var 1) (.cst (.int 1)))) (.cons (.forr (.v 4) (.rng (.blt false .len (.var 3))) (.cons (.asg 5 (.call "_law_nodes" (.cons (.idx (.var 3) (.var 4)) .nil))) (.cons (.ife (.chn .le .lt (.cst (.int 0)) (.var 1) (.var 5)) (.cons (.sti (.var 3) (.var 4) (.call "_law_spoilt" (.cons (.idx (.var 3) (.var 4)) (.cons (.var 1) (.cons (.var 2) .nil))))) .nil) .nil) (.cons (.asg 1 (.bin .sub (.var 1) (.var 5))) .nil)))) (.cons (.ret (.call "_law_with" (.cons (.var 0) (.cons (.var 3) .nil)))) .nil)))))⟩
def F_law_copied : Fn := ⟨"_law_copied", 5, 12, false, (.cons (.ife (.cmp .eq (.idx (.var 1) (.cst (.str "seeds"))) (.lst false .nil)) (.cons (.ret (.call "_law_leaf" (.cons (.var 0) (.cons (.var 1) (.cons (.var 2) .nil))))) .nil) .nil) (.cons (.asg 5 (.idx (.idx (.var 1) (.cst (.str "seeds"))) (.call "_law_draw" (.cons (.var 0) (.cons (.blt false .len (.idx (.var 1) (.cst (.str "seeds")))) .nil))))) (.cons (.asg 6 (.idx (.var 1) (.cst (.str "names")))) (.cons (.asg 7 (.call "_law_draw" (.cons (.var 0) (.cons (.blt false .len (.var 6)) .nil)))) (.cons (.asg 8 (.bin .add (.slf (.var 6) (.var 7)) (.slt (.var 6) (.var 7)))) (.cons (.ife (.cmp .eq (.call "_law_draw" (.cons (.var 0) (.cons (.cst (.int 6)) .nil))) (.cst (.int 0))) (.cons (.asg 8 (.lc false (.idx (.var 8) (.cst (.int 0))) (.v 11) (.e (.var 6)))) .nil) .nil) (.cons (.asg 9 (.call "_law_turned" (.cons (.var 5) (.cons (.var 6) (.cons (.var 8) .nil))))) (.cons (.ife (.cmp .eq (.call "_law_draw" (.cons (.var 0) (.cons (.cst (.int 2)) .nil))) (.cst (.int 0))) (.cons (.asg 9 (.call "_law_spoilt" (.cons (.var 9) (.cons (.call "_law_draw" (.cons (.var 0) (.cons (.call "_law_nodes" (.cons (.var 9) .nil)) .nil))) (.cons (.call "_law_leaf" (.cons (.var 0) (.cons (.var 1) (.cons (.var 2) .nil)))) .nil))))) .nil) .nil) (.cons (.asg 10 (.bin .mul (.var 4) (.call "_law_work" (.cons (.var 9) (.cons (.idx (.var 1) (.cst (.str "works"))) .nil))))) (.cons (.ife (.or (.cons (.not (.call "_law_right" (.cons (.var 9) (.cons (.var 2) .nil)))) (.cons (.cmp .gt (.var 10) (.bin .sub (.idx (.var 1) (.cst (.str "toil"))) (.bin .mul (.cst (.int 30)) (.var 4)))) (.cons (.cmp .gt (.call "_law_nodes" (.cons (.var 9) .nil)) (.idx (.var 1) (.cst (.str "room")))) .nil)))) (.cons (.ret (.call "_law_leaf" (.cons (.var 0) (.cons (.var 1) (.cons (.var 2) .nil))))) .nil) .nil) (.cons (.sti (.var 1) (.cst (.str "toil")) (.bin .sub (.idx (.var 1) (.cst (.str "toil"))) (.var 10))) (.cons (.sti (.var 1) (.cst (.str "room")) (.bin .sub (.idx (.var 1) (.cst (.str "room"))) (.call "_law_nodes" (.cons (.var 9) .nil)))) (.cons (.ret (.var 9)) .nil)))))))))))))⟩
def F_law_bound : Fn := ⟨"_law_bound", 6, 9, false, (.cons (.asg 6 (.lci false (.var 7) (.v 7) (.e (.idx (.var 1) (.cst (.str "names")))) (.cmp .nin (.var 7) (.var 2)))) (.cons (.ife (.and (.cons (.cmp .eq (.var 5) (.cst (.str "set"))) (.cons (.cmp .ne (.var 6) (.lst false .nil)) .nil))) (.cons (.asg 7 (.idx (.var 6) (.call "_law_draw" (.cons (.var 0) (.cons (.blt false .len (.var 6)) .nil))))) (.cons (.ret (.tup (.cons (.cst (.str "set")) (.cons (.var 7) (.cons (.call "_law_expr" (.cons (.var 0) (.cons (.var 1) (.cons (.var 2) (.cons (.bin .sub (.var 3) (.cst (.int 1))) (.cons (.var 4) .nil)))))) .nil))))) .nil)) .nil) (.cons (.ife (.cmp .eq (.var 5) (.cst (.str "let"))) (.cons (.asg 6 (.bin .add (.idx (.var 1) (.cst (.str "names"))) (.idx (.var 1) (.cst (.str "lets"))))) (.cons (.asg 7 (.idx (.var 6) (.call "_law_draw" (.cons (.var 0) (.cons (.blt false .len (.var 6)) .nil))))) (.cons (.asg 8 (.call "_law_expr" (.cons (.var 0) (.cons (.var 1) (.cons (.var 2) (.cons (.bin .sub (.var 3) (.cst (.int 1))) (.cons (.var 4) .nil))))))) (.cons (.ret (.tup (.cons (.cst (.str "let")) (.cons (.var 7) (.cons (.var 8) (.cons (.call "_law_expr" (.cons (.var 0) (.cons (.var 1) (.cons (.bin .add (.var 2) (.lst false (.cons (.var 7) .nil))) (.cons (.bin .sub (.var 3) (.cst (.int 1))) (.cons (.var 4) .nil)))))) .nil)))))) .nil)))) .nil) (.cons (.ret (.tup (.cons (.cst (.str "say")) (.cons (.call "_law_expr" (.cons (.var 0) (.cons (.var 1) (.cons (.var 2) (.cons (.bin .sub (.var 3) (.cst (.int 1))) (.cons (.var 4) .nil)))))) .nil)))) .nil))))⟩
def F_law_called : Fn := ⟨"_law_called", 5, 9, false, (.cons (.ife (.cmp .eq (.idx (.var 1) (.cst (.str "functions"))) (.lst false .nil)) (.cons (.ret (.call "_law_leaf" (.cons (.var 0) (.cons (.var 1) (.cons (.var 2) .nil))))) .nil) .nil) (.cons (.unp [6, 7] (.idx (.idx (.var 1) (.cst (.str "functions"))) (.call "_law_draw" (.cons (.var 0) (.cons (.blt false .len (.idx (.var 1) (.cst (.str "functions")))) .nil))))) (.cons (.asg 5 (.bin .mul (.var 4) (.idx (.idx (.var 1) (.cst (.str "works"))) (.var 6)))) (.cons (.ife (.cmp .lt (.idx (.var 1) (.cst (.str "toil"))) (.bin .add (.bin .mul (.cst (.int 30)) (.var 4)) (.var 5))) (.cons (.ret (.call "_law_leaf" (.cons (.var 0) (.cons (.var 1) (.cons (.var 2) .nil))))) .nil) .nil) (.cons (.sti (.var 1) (.cst (.str "toil")) (.bin .sub (.idx (.var 1) (.cst (.str "toil"))) (.var 5))) (.cons (.ret (.blt false .tuple (.bin .add (.lst false (.cons (.cst (.str "call")) (.cons (.var 6) .nil))) (.lc false (.call "_law_expr" (.cons (.var 0) (.cons (.var 1) (.cons (.var 2) (.cons (.bin .sub (.var 3) (.cst (.int 1))) (.cons (.var 4) .nil)))))) (.v 8) (.rng (.var 7)))))) .nil))))))⟩
def F_law_expr : Fn := ⟨"_law_expr", 5, 10, false, (.cons (.sti (.var 1) (.cst (.str "room")) (.bin .sub (.idx (.var 1) (.cst (.str "room"))) (.cst (.int 1)))) (.cons (.sti (.var 1) (.cst (.str "toil")) (.bin .sub (.idx (.var 1) (.cst (.str "toil"))) (.var 4))) (.cons (.asg 5 (.lst false (.cons (.cst (.str "op")) (.cons (.cst (.str "op")) (.cons (.cst (.str "copy")) (.cons (.cst (.str "pick")) (.cons (.cst (.str "let")) (.cons (.cst (.str "set")) (.cons (.cst (.str "say")) (.cons (.cst (.str "do")) (.cons (.cst (.str "again")) (.cons (.cst (.str "call")) (.cons (.cst (.str "copy")) (.cons (.cst (.str "op")) (.cons (.cst (.str "leaf")) (.cons (.cst (.str "let")) .nil)))))))))))))))) (.cons (.asg 6 (.idx (.var 5) (.call "_law_draw" (.cons (.var 0) (.cons (.cst (.int 14)) .nil))))) (.cons (.ife (.or (.cons (.cmp .lt (.var 3) (.cst (.int 2))) (.cons (.cmp .lt (.idx (.var 1) (.cst (.str "room"))) (.cst (.int 6))) (.cons (.cmp .lt (.idx (.var 1) (.cst (.str "toil"))) (.bin .mul (.cst (.int 30)) (.var 4))) (.cons (.cmp .eq (.var 6) (.cst (.str "leaf"))) .nil))))) (.cons (.ret (.call "_law_leaf" (.cons (.var 0) (.cons (.var 1) (.cons (.var 2) .nil))))) .nil) .nil) (.cons (.ife (.cmp .eq (.var 6) (.cst (.str "copy"))) (.cons (.ret (.call "_law_copied" (.cons (.var 0) (.cons (.var 1) (.cons (.var 2) (.cons (.var 3) (.cons (.var 4) .nil))))))) .nil) .nil) (.cons (.ife (.cmp .eq (.var 6) (.cst (.str "call"))) (.cons (.ret (.call "_law_called" (.cons (.var 0) (.cons (.var 1) (.cons (.var 2) (.cons (.var 3) (.cons (.var 4) .nil))))))) .nil) .nil) (.cons (.ife (.cmp .inn (.var 6) (.tup (.cons (.cst (.str "let")) (.cons (.cst (.str "set")) (.cons (.cst (.str "say")) .nil))))) (.cons (.ret (.call "_law_bound" (.cons (.var 0) (.cons (.var 1) (.cons (.var 2) (.cons (.var 3) (.cons (.var 4) (.cons (.var 6) .nil)))))))) .nil) .nil) (.cons (.ife (.cmp .eq (.var 6) (.cst (.str "again"))) (.cons (.asg 8 (.idx (.lst false (.cons (.cst (.int 2)) (.cons (.cst (.int 3)) (.cons (.cst (.int 0)) (.cons (.cst (.int 1)) (.cons (.cst (.int 5)) (.cons (.cst (.int 2)) .nil))))))) (.call "_law_draw" (.cons (.var 0) (.cons (.cst (.int 6)) .nil))))) (.cons (.ife (.cmp .lt (.idx (.var 1) (.cst (.str "toil"))) (.bin .mul (.bin .mul (.cst (.int 30)) (.var 4)) (.var 8))) (.cons (.asg 8 (.cst (.int 1))) .nil) .nil) (.cons (.ret (.tup (.cons (.cst (.str "again")) (.cons (.var 8) (.cons (.call "_law_expr" (.cons (.var 0) (.cons (.var 1) (.cons (.var 2) (.cons (.bin .sub (.var 3) (.cst (.int 1))) (.cons (.bin .mul (.var 4) (.var 8)) .nil)))))) .nil))))) .nil))) .nil) (.cons (.asg 7 (.lst false (.cons (.cst (.str "do")) .nil))) (.cons (.asg 8 (.idx (.lst false (.cons (.cst (.int 2)) (.cons (.cst (.int 3)) (.cons (.cst (.int 1)) (.cons (.cst (.int 2)) (.cons (.cst (.int 4)) (.cons (.cst (.int 6)) .nil))))))) (.call "_law_draw" (.cons (.var 0) (.cons (.cst (.int 6)) .nil))))) (.cons (.ife (.cmp .eq (.var 6) (.cst (.str "pick"))) (.cons (.asg 7 (.lst false (.cons (.cst (.str "pick")) .nil))) (.cons (.asg 8 (.cst (.int 3))) .nil)) .nil) (.cons (.ife (.cmp .eq (.var 6) (.cst (.str "op"))) (.cons (.asg 7 (.lst false (.cons (.cst (.str "op")) (.cons (.idx (.cst (.str "+-*/<=")) (.call "_law_draw" (.cons (.var 0) (.cons (.cst (.int 6)) .nil)))) .nil)))) (.cons (.asg 8 (.cst (.int 2))) .nil)) .nil) (.cons (.ret (.blt false .tuple (.bin .add (.var 7) (.lc false (.call "_law_expr" (.cons (.var 0) (.cons (.var 1) (.cons (.var 2) (.cons (.bin .sub (.var 3) (.cst (.int 1))) (.cons (.var 4) .nil)))))) (.v 9) (.rng (.var 8)))))) .nil))))))))))))))⟩
def F_law_world_r : Fn := ⟨"_law_world", 6, 6, true, (.cons (.ret (.dic ["names", "lets", "functions", "works", "seeds", "room", "toil", "takes"] (.cons (.var 0) (.cons (.var 1) (.cons (.var 2) (.cons (.var 3) (.cons (.lst false .nil) (.cons (.var 4) (.cons (.var 5) (.cons (.cst (.bl true)) .nil)))))))))) .nil)⟩
def F_law_seeds : Fn := ⟨"_law_seeds", 3, 6, false, (.cons (.asg 3 (.lst true .nil)) (.cons (.forr (.v 4) (.rng (.var 2)) (.cons (.asg 5 (.blt true .dict (.var 1))) (.cons (.sti (.var 5) (.cst (.str "seeds")) (.lst false .nil)) (.cons (.sti (.var 5) (.cst (.str "room")) (.cst (.int 7))) (.cons (.sti (.var 5) (.cst (.str "toil")) (.cst (.int 60))) (.cons (.app (.var 3) (.call "_law_expr" (.cons (.var 0) (.cons (.var 5) (.cons (.lst false .nil) (.cons (.cst (.int 4)) (.cons (.cst (.int 1)) .nil))))))) .nil)))))) (.cons (.ret (.var 3)) .nil)))⟩
def F_law_program : Fn := ⟨"_law_program", 2, 15, false, (.cons (.asg 2 (.call "_law_names" (.cons (.var 0) (.cons (.bin .add (.cst (.int 2)) (.call "_law_draw" (.cons (.var 0) (.cons (.cst (.int 4)) .nil)))) .nil)))) (.cons (.asg 3 (.lst false (.cons (.call "_law_name" (.cons (.var 0) (.cons (.var 2) .nil))) (.cons (.idx (.var 2) (.cst (.int 0))) .nil)))) (.cons (.asg 4 (.lst true .nil)) (.cons (.asg 5 (.lst false .nil)) (.cons (.asg 6 (.dic [] .nil)) (.cons (.forr (.v 7) (.rng (.idx (.lst false (.cons (.cst (.int 1)) (.cons (.cst (.int 0)) (.cons (.cst (.int 2)) (.cons (.cst (.int 3)) .nil))))) (.call "_law_draw" (.cons (.var 0) (.cons (.cst (.int 4)) .nil))))) (.cons (.asg 9 (.call "_law_name" (.cons (.var 0) (.cons (.lcv (.idx (.var 14) (.cst (.int 0))) (.v 14) 4) .nil)))) (.cons (.asg 10 (.bin .add (.var 2) (.slt (.var 3) (.cst (.int 1))))) (.cons (.ife (.and (.cons (.cmp .eq (.call "_law_draw" (.cons (.var 0) (.cons (.cst (.int 2)) .nil))) (.cst (.int 0))) (.cons (.cmp .nin (.idx (.var 10) (.var 7)) (.lcv (.idx (.var 14) (.cst (.int 0))) (.v 14) 4)) .nil))) (.cons (.asg 9 (.idx (.var 10) (.var 7))) .nil) .nil) (.cons (.asg 11 (.call "_law_draw" (.cons (.var 0) (.cons (.blt false .len (.var 10)) .nil)))) (.cons (.asg 12 (.slt (.bin .add (.slf (.var 10) (.var 11)) (.slt (.var 10) (.var 11))) (.idx (.lst false (.cons (.cst (.int 1)) (.cons (.cst (.int 2)) (.cons (.cst (.int 0)) (.cons (.cst (.int 3)) (.cons (.cst (.int 1)) (.cons (.cst (.int 2)) (.cons (.cst (.int 2)) (.cons (.cst (.int 6)) .nil))))))))) (.call "_law_draw" (.cons (.var 0) (.cons (.cst (.int 8)) .nil)))))) (.cons (.asg 8 (.call "_law_world!" (.cons (.var 2) (.cons (.var 3) (.cons (.var 5) (.cons (.var 6) (.cons (.cst (.int 9)) (.cons (.cst (.int 120)) .nil)))))))) (.cons (.asg 13 (.call "_law_expr" (.cons (.var 0) (.cons (.var 8) (.cons (.var 12) (.cons (.cst (.int 4)) (.cons (.cst (.int 1)) .nil))))))) (.cons (.app (.var 4) (.tup (.cons (.var 9) (.cons (.blt false .tuple (.var 12)) (.cons (.var 13) .nil))))) (.cons (.asg 5 (.bin .add (.var 5) (.lst false (.cons (.tup (.cons (.var 9) (.cons (.blt false .len (.var 12)) .nil))) .nil)))) (.cons (.asg 6 (.blt true .dict (.var 6))) (.cons (.sti (.var 6) (.var 9) (.call "_law_work" (.cons (.var 13) (.cons (.var 6) .nil)))) .nil)))))))))))) (.cons (.asg 8 (.call "_law_world!" (.cons (.var 2) (.cons (.var 3) (.cons (.var 5) (.cons (.var 6) (.cons (.var 1) (.cons (.cst (.int 1400)) .nil)))))))) (.cons (.sti (.var 8) (.cst (.str "seeds")) (.call "_law_seeds" (.cons (.var 0) (.cons (.var 8) (.cons (.bin .add (.cst (.int 1)) (.call "_law_draw" (.cons (.var 0) (.cons (.cst (.int 2)) .nil)))) .nil))))) (.cons (.ret (.tup (.cons (.blt false .tuple (.var 4)) (.cons (.call "_law_expr" (.cons (.var 0) (.cons (.var 8) (.cons (.lst false .nil) (.cons (.cst (.int 7)) (.cons (.cst (.int 1)) .nil)))))) .nil)))) .nil)))))))))⟩
def F_law_drawn : Fn := ⟨"_law_drawn", 2, 12, false, (.cons (.asg 2 (.call "_law_names" (.cons (.var 0) (.cons (.bin .add (.cst (.int 2)) (.call "_law_draw" (.cons (.var 0) (.cons (.cst (.int 4)) .nil)))) .nil)))) (.cons (.asg 3 (.lst false (.cons (.call "_law_name" (.cons (.var 0) (.cons (.var 2) .nil))) (.cons (.idx (.var 2) (.cst (.int 0))) .nil)))) (.cons (.asg 4 (.lc false (.tup (.cons (.var 10) (.cons (.call "_law_draw" (.cons (.var 0) (.cons (.cst (.int 7)) .nil))) .nil))) (.v 10) (.e (.call "_law_names" (.cons (.var 0) (.cons (.cst (.int 2)) .nil)))))) (.cons (.asg 5 (.blt false .dict (.lc false (.tup (.cons (.var 10) (.cons (.cst (.int 1)) .nil))) (.t [10, 11]) (.e (.var 4))))) (.cons (.asg 6 (.call "_law_world!" (.cons (.var 2) (.cons (.var 3) (.cons (.var 4) (.cons (.var 5) (.cons (.var 1) (.cons (.bin .pow (.cst (.int 10)) (.cst (.int 9))) .nil)))))))) (.cons (.sti (.var 6) (.cst (.str "seeds")) (.call "_law_seeds" (.cons (.var 0) (.cons (.var 6) (.cons (.cst (.int 1)) .nil))))) (.cons (.asg 7 (.call "_law_expr" (.cons (.var 0) (.cons (.var 6) (.cons (.lst false .nil) (.cons (.bin .add (.cst (.int 1)) (.call "_law_draw" (.cons (.var 0) (.cons (.cst (.int 7)) .nil)))) (.cons (.cst (.int 1)) .nil))))))) (.cons (.forr (.v 8) (.rng (.idx (.lst false (.cons (.cst (.int 0)) (.cons (.cst (.int 0)) (.cons (.cst (.int 3)) (.cons (.cst (.int 5)) .nil))))) (.call "_law_draw" (.cons (.var 0) (.cons (.cst (.int 4)) .nil))))) (.cons (.asg 9 (.call "_law_draw" (.cons (.var 0) (.cons (.cst (.int 4)) .nil)))) (.cons (.ife (.and (.cons (.cmp .eq (.var 9) (.cst (.int 0))) (.cons (.call "_law_right" (.cons (.var 7) (.cons (.lst false (.cons (.idx (.var 2) (.cst (.int 1))) .nil)) .nil))) .nil))) (.cons (.asg 7 (.tup (.cons (.cst (.str "let")) (.cons (.idx (.var 2) (.cst (.int 1))) (.cons (.tup (.cons (.cst (.str "num")) (.cons (.var 8) .nil))) (.cons (.var 7) .nil)))))) .nil) (.cons (.asg 7 (.idx (.lst false (.cons (.tup (.cons (.cst (.str "say")) (.cons (.var 7) .nil))) (.cons (.tup (.cons (.cst (.str "say")) (.cons (.var 7) .nil))) (.cons (.tup (.cons (.cst (.str "again")) (.cons (.var 8) (.cons (.var 7) .nil)))) (.cons (.tup (.cons (.cst (.str "call")) (.cons (.idx (.var 2) (.cst (.int 0))) (.cons (.var 7) .nil)))) .nil))))) (.var 9))) .nil)) .nil))) (.cons (.ret (.var 7)) .nil)))))))))⟩
def F_law_words : Fn := ⟨"_law_words", 1, 4, false, (.cons (.ife (.cmp .eq (.idx (.var 0) (.cst (.int 0))) (.cst (.str "take"))) (.cons (.ret (.lst false (.cons (.cst (.str "take")) .nil))) .nil) .nil) (.cons (.asg 1 (.lci false (.blt false .str (.var 3)) (.v 3) (.e (.slf (.var 0) (.cst (.int 1)))) (.not (.isi (.var 3) .tuple)))) (.cons (.ife (.or (.cons (.cmp .eq (.idx (.var 0) (.cst (.int 0))) (.cst (.str "num"))) (.cons (.cmp .eq (.idx (.var 0) (.cst (.int 0))) (.cst (.str "name"))) .nil))) (.cons (.ret (.var 1)) .nil) .nil) (.cons (.asg 2 (.bin .add (.bin .add (.lst false (.cons (.cst (.str "(")) .nil)) (.bin .mul (.lst false (.cons (.idx (.var 0) (.cst (.int 0))) .nil)) (.blt false .int (.cmp .ne (.idx (.var 0) (.cst (.int 0))) (.cst (.str "op")))))) (.var 1))) (.cons (.forr (.v 3) (.e (.call "_law_parts" (.cons (.var 0) .nil))) (.cons (.asg 2 (.bin .add (.var 2) (.call "_law_words" (.cons (.var 3) .nil)))) .nil)) (.cons (.ret (.bin .add (.var 2) (.lst false (.cons (.cst (.str ")")) .nil)))) .nil))))))⟩
def F_law_lines : Fn := ⟨"_law_lines", 1, 5, false, (.cons (.asg 1 (.lc false (.bin .add (.bin .add (.bin .add (.lst false (.cons (.var 2) .nil)) (.blt false .list (.var 3))) (.lst false (.cons (.cst (.str ":")) .nil))) (.call "_law_words" (.cons (.var 4) .nil))) (.t [2, 3, 4]) (.e (.idx (.var 0) (.cst (.int 0)))))) (.cons (.ret (.bin .add (.var 1) (.lst false (.cons (.call "_law_words" (.cons (.idx (.var 0) (.cst (.int 1))) .nil)) .nil)))) .nil))⟩
def F_law : Fn := ⟨"law", 1, 9, false, (.cons (.asg 1 (.call "_law_feed!" (.cons (.var 0) .nil))) (.cons (.forr (.v 2) (.rng (.cst (.int 4))) (.cons (.asg 6 (.call "_law_drawn" (.cons (.var 1) (.cons (.idx (.lst false (.cons (.cst (.int 4)) (.cons (.cst (.int 12)) (.cons (.cst (.int 40)) (.cons (.cst (.int 25)) .nil))))) (.var 2)) .nil)))) (.cons (.asg 4 (.mth .join (.cst (.str " ")) (.cons (.call "_law_words" (.cons (.var 6) .nil)) .nil))) (.cons (.forr (.v 5) (.rng (.cst (.int 2))) (.cons (.asg 7 (.call "show" (.cons (.var 6) .nil))) (.cons (.ife (.or (.cons (.not (.isi (.var 7) .str)) (.cons (.cmp .ne (.var 7) (.var 4)) .nil))) (.cons (.ret (.cst (.bl false))) .nil) .nil) .nil))) .nil)))) (.cons (.asg 3 (.call "_law_program" (.cons (.var 1) (.cons (.cst (.int 20)) .nil)))) (.cons (.asg 4 (.lc false (.mth .join (.cst (.str " ")) (.cons (.var 8) .nil)) (.v 8) (.e (.call "_law_lines" (.cons (.var 3) .nil))))) (.cons (.forr (.v 5) (.rng (.cst (.int 2))) (.cons (.asg 7 (.call "show_program" (.cons (.var 3) .nil))) (.cons (.ife (.or (.cons (.not (.isi (.var 7) .tuple)) (.cons (.cmp .ne (.blt false .list (.var 7)) (.var 4)) .nil))) (.cons (.ret (.cst (.bl false))) .nil) .nil) .nil))) (.cons (.ret (.cst (.bl true))) .nil))))))⟩
def tab : List (Str × Fn) := [("parts", F_parts), ("show", F_show), ("show_program", F_show_program), ("_law_feed!", F_law_feed_r), ("_law_draw", F_law_draw), ("_law_value", F_law_value), ("_law_spelled", F_law_spelled), ("_law_name", F_law_name), ("_law_names", F_law_names), ("_law_parts", F_law_parts), ("_law_parts!", F_law_parts_r), ("_law_with", F_law_with), ("_law_nodes", F_law_nodes), ("_law_work", F_law_work), ("_law_right", F_law_right), ("_law_leaf", F_law_leaf), ("_law_turned", F_law_turned), ("_law_spoilt", F_law_spoilt), ("_law_copied", F_law_copied), ("_law_bound", F_law_bound), ("_law_called", F_law_called), ("_law_expr", F_law_expr), ("_law_world!", F_law_world_r), ("_law_seeds", F_law_seeds), ("_law_program", F_law_program), ("_law_drawn", F_law_drawn), ("_law_words", F_law_words), ("_law_lines", F_law_lines), ("law", F_law)]
/-- names by slots, and where the def stands -/
def nms : List (List Str) := [["e", "one"], ["e", "words", "one", "part"], ["program", "found", "name", "params", "body"], ["script"], ["feed", "many", "at", "cell", "number", "found"], ["feed", "way"], ["number", "long", "word", "k"], ["feed", "taken", "words", "way", "long", "number", "name", "word", "at"], ["feed", "many", "names", "k"], ["e", "part"], ["e", "part"], ["e", "inner", "part"], ["e", "part"], ["e", "works", "inner", "part"], ["e", "bound", "part"], ["feed", "world", "bound", "way", "some"], ["e", "names", "others", "part"], ["e", "at", "leaf", "inner", "k", "long"], ["feed", "world", "bound", "below", "times", "seed", "names", "shift", "others", "found", "cost", "name"], ["feed", "world", "bound", "below", "times", "kind", "some", "name", "first"], ["feed", "world", "bound", "below", "times", "cost", "name", "many", "k"], ["feed", "world", "bound", "below", "times", "kinds", "kind", "head", "many", "k"], ["names", "lets", "functions", "works", "room", "toil"], ["feed", "world", "many", "found", "k", "small"], ["feed", "room", "names", "lets", "functions", "known", "works", "k", "world", "name", "pool", "at", "params", "body", "one"], ["feed", "room", "names", "lets", "calls", "works", "world", "found", "k", "way", "name", "many"], ["e", "head", "found", "one"], ["program", "found", "name", "params", "body"], ["script", "feed", "turn", "program", "due", "again", "one", "found", "words"]]
def poss : List Nat := [1, 3, 4, 6, 7, 8, 9, 10, 11, 12, 12, 13, 14, 15, 16, 17, 18, 19, 20, 21, 22, 23, 24, 25, 26, 27, 28, 29, 30]
def pss : List (List Str) := [["e"], ["e"], ["program"], ["script"], ["feed", "many"], ["feed"], ["number", "long"], ["feed", "taken"], ["feed", "many"], ["e"], ["e"], ["e", "inner"], ["e"], ["e", "works"], ["e", "bound"], ["feed", "world", "bound"], ["e", "names", "others"], ["e", "at", "leaf"], ["feed", "world", "bound", "below", "times"], ["feed", "world", "bound", "below", "times", "kind"], ["feed", "world", "bound", "below", "times"], ["feed", "world", "bound", "below", "times"], ["names", "lets", "functions", "works", "room", "toil"], ["feed", "world", "many"], ["feed", "room"], ["feed", "room"], ["e"], ["program"], ["script"]]
end Mp
-- Ev1
set_option Elab.async false
set_option linter.all false
set_option maxRecDepth 100000
set_option maxHeartbeats 2000000
namespace Mp
open PySem L2

/-- not a step by definition -/
theorem nr {α : Sort _} {a b : α} (h : a = b) : a = b := h
/-! ## runs that end well -/
structure Ok {α : Type} (x : R α) (Q : α → Mem → Prop) : Prop where
  ex : ∃ a m, x = .ok a m ∧ Q a m
section
variable {α β : Type} {Q Q' : α → Mem → Prop}
@[simp] theorem Ok_ok {a : α} {m : Mem} : Ok (.ok a m) Q = Q a m := by
  apply propext
  constructor
  · rintro ⟨b, m2, e, q⟩
    cases e
    exact q
  · exact fun q => ⟨_, _, rfl, q⟩
@[simp] theorem Ok_no : Ok (.no : R α) Q = False := by
  apply propext
  constructor
  · rintro ⟨b, m2, e, q⟩
    cases e
  · exact False.elim
@[simp] theorem Ok_bind {a : R α} {f : α → Mem → R β} {Q : β → Mem → Prop} : Ok (a.bind f) Q = Ok a (fun v m => Ok (f v m) Q) := by
  apply propext
  constructor
  · rintro ⟨b, m2, e, q⟩
    cases a with
    | ok v m => exact ⟨v, m, rfl, b, m2, e, q⟩
    | ex c fs m => cases e
    | no => cases e
  · rintro ⟨v, m, rfl, b, m2, e, q⟩
    exact ⟨b, m2, e, q⟩
theorem Ok.of {a : α} {m : Mem} (q : Q a m) : Ok (.ok a m) Q := ⟨_, _, rfl, q⟩
theorem Ok.mono {x : R α} (h : Ok x Q) (g : ∀ a m, Q a m → Q' a m) : Ok x Q' := by
  obtain ⟨a, m, e, q⟩ := h
  exact ⟨a, m, e, g _ _ q⟩
end
variable {F : Fs} {r : En} {m : Mem}
/-! ### the evaluator's equations -/
section
@[simp] theorem evE_var {i : Nat} : evE F (.var i) r m = match r[i]? with | some (some v) => .ok v m | _ => .no := nr rfl
@[simp] theorem evE_cst {c : Ct} : evE F (.cst c) r m = .ok (.d c.v) m := nr rfl
@[simp] theorem evE_bin {o : Bo} {a b : Ex} : evE F (.bin o a b) r m = (evE F a r m).bind fun x m1 => (evE F b r m1).bind fun y m2 => rd2 m2 x y fun p q => opt (binop o p q) m2 := nr rfl
@[simp] theorem evE_neg {a : Ex} : evE F (.neg a) r m = (evE F a r m).bind fun x m1 => match rd m1 x with | some p => opt (negop p) m1 | none => .no := nr rfl
@[simp] theorem evE_cmp {o : Co} {a b : Ex} : evE F (.cmp o a b) r m = (evE F a r m).bind fun x m1 => (evE F b r m1).bind fun y m2 => rd2 m2 x y fun p q => opB (cmpop o p q) m2 := nr rfl
@[simp] theorem evE_chn {o o' : Co} {a b c : Ex} : evE F (.chn o o' a b c) r m = (evE F a r m).bind fun x m1 => (evE F b r m1).bind fun y m2 => match rd m2 x, rd m2 y with
    | some p, some q => match cmpop o p q with
      | some true => (evE F c r m2).bind fun z m3 => rd2 m3 y z fun q s => opB (cmpop o' q s) m3
      | some false => .ok (.d (.bool false)) m2
      | none => .no
    | _, _ => .no := nr rfl
@[simp] theorem evE_and {es : Exs} : evE F (.and es) r m = evAnd F es r m := nr rfl
@[simp] theorem evE_or {es : Exs} : evE F (.or es) r m = evOr F es r m := nr rfl
@[simp] theorem evE_not {a : Ex} : evE F (.not a) r m = (evE F a r m).bind fun x m1 => (asB x m1).bind fun b m2 => .ok (.d (.bool (!b))) m2 := nr rfl
@[simp] theorem evE_ite {a b c : Ex} : evE F (.ite c a b) r m = (evE F c r m).bind fun x m1 => (asB x m1).bind fun k m2 => match k with | true => evE F a r m2 | false => evE F b r m2 := nr rfl
@[simp] theorem evE_tup {es : Exs} : evE F (.tup es) r m = (evL F es r m).bind fun vs m1 => (fzL vs m1).bind fun xs m2 => .ok (.d (.tuple xs)) m2 := nr rfl
@[simp] theorem evE_lst {fl : Bool} {es : Exs} : evE F (.lst fl es) r m = (evL F es r m).bind fun vs m1 => (fzL vs m1).bind fun xs m2 => mkl fl xs m2 := nr rfl
@[simp] theorem evE_dic {ks : List Str} {es : Exs} : evE F (.dic ks es) r m = (evL F es r (m ++ [.dct []])).bind fun vs m1 => (fzL vs m1).bind fun xs m2 => match dicOf ks xs, m2[m.length]? with
    | some l, some (.dct []) => .ok (.r m.length) (m2.set m.length (.dct l))
    | _, _ => .no := nr rfl
@[simp] theorem evE_idx {a b : Ex} : evE F (.idx a b) r m = (evE F a r m).bind fun x m1 => (evE F b r m1).bind fun y m2 => rd2 m2 x y fun p q => opt (idxop p q) m2 := nr rfl
@[simp] theorem evE_slf {a lo : Ex} : evE F (.slf a lo) r m = (evE F a r m).bind fun x m1 => (evE F lo r m1).bind fun y m2 => match rd m2 x, y with
    | some p, .d (.int i) => opt (slop p (some i) none) m2
    | _, _ => .no := nr rfl
@[simp] theorem evE_slt {a hi : Ex} : evE F (.slt a hi) r m = (evE F a r m).bind fun x m1 => (evE F hi r m1).bind fun y m2 => match x, y with
    | .s ns, .d (.int i) => .ok (.d (.list ((cutL ns none (some i)).map .int))) m2
    | x, .d (.int i) => match rd m2 x with
      | some p => opt (slop p none (some i)) m2
      | none => .no
    | _, _ => .no := nr rfl
@[simp] theorem evE_sl2 {a lo hi : Ex} : evE F (.sl2 a lo hi) r m = (evE F a r m).bind fun x m1 => (evE F lo r m1).bind fun y m2 => (evE F hi r m2).bind fun z m3 => match rd m3 x, y, z with
    | some p, .d (.int i), .d (.int j) => opt (slop p (some i) (some j)) m3
    | _, _, _ => .no := nr rfl
@[simp] theorem evE_call {f : Str} {es : Exs} : evE F (.call f es) r m = (evL F es r m).bind fun vs m1 => F f vs m1 := nr rfl
@[simp] theorem evE_isi {a : Ex} {t : Ty} : evE F (.isi a t) r m = (evE F a r m).bind fun x m1 => match rd m1 x with | some p => opB (isiop p t) m1 | none => .no := nr rfl
@[simp] theorem evE_blt {fl : Bool} {b : Bt} {a : Ex} : evE F (.blt fl b a) r m = (evE F a r m).bind fun x m1 => match rd m1 x with | some p => outM fl (bltop b p) m1 | none => .no := nr rfl
@[simp] theorem evE_mth {k : Mt} {o : Ex} {es : Exs} : evE F (.mth k o es) r m = (evE F o r m).bind fun x m1 => match mtK k m1 x with
    | true => (evL F es r m1).bind fun vs m2 => (fzL vs m2).bind fun xs m3 => match rd m3 x with
      | some p => opt (mthop k p xs) m3
      | none => .no
    | false => .no := nr rfl
@[simp] theorem evL_nil : evL F .nil r m = .ok [] m := nr rfl
@[simp] theorem evL_cons {e : Ex} {es : Exs} : evL F (.cons e es) r m = (evE F e r m).bind fun v m1 => (evL F es r m1).bind fun vs m2 => .ok (v :: vs) m2 := nr rfl
@[simp] theorem evAnd_one {e : Ex} : evAnd F (.cons e .nil) r m = (evE F e r m).bind fun x m1 => (asB x m1).bind fun b m2 => .ok (.d (.bool b)) m2 := nr rfl
@[simp] theorem evAnd_cons {e e2 : Ex} {es : Exs} : evAnd F (.cons e (.cons e2 es)) r m = (evE F e r m).bind fun x m1 => (asB x m1).bind fun b m2 => match b with | true => evAnd F (.cons e2 es) r m2 | false => .ok (.d (.bool false)) m2 := nr rfl
@[simp] theorem evOr_one {e : Ex} : evOr F (.cons e .nil) r m = (evE F e r m).bind fun x m1 => (asB x m1).bind fun b m2 => .ok (.d (.bool b)) m2 := nr rfl
@[simp] theorem evOr_cons {e e2 : Ex} {es : Exs} : evOr F (.cons e (.cons e2 es)) r m = (evE F e r m).bind fun x m1 => (asB x m1).bind fun b m2 => match b with | true => .ok (.d (.bool true)) m2 | false => evOr F (.cons e2 es) r m2 := nr rfl
@[simp] theorem evI_e {x : Ex} : evI F (.e x) r m = (evE F x r m).bind fun v m1 => (fz v m1).bind fun xs m2 => asIt xs m2 := nr rfl
@[simp] theorem evI_rng {x : Ex} : evI F (.rng x) r m = (evE F x r m).bind fun v m1 => match v with
    | .d (.int b) => if rngOk 0 b then .ok (rngL 0 b) m1 else .no
    | _ => .no := nr rfl
@[simp] theorem evT_eq {e : Ex} : evT F e r m = (evE F e r m).bind asB := nr rfl
@[simp] theorem evB_nil : evB F .nil r m = .ok (.nx r) m := nr rfl
@[simp] theorem evB_cons {s : Sx} {b : Sxs} : evB F (.cons s b) r m = (evS F s r m).bind fun fl m1 => match fl with | .nx r1 => evB F b r1 m1 | .rt v => .ok (.rt v) m1 := nr rfl
@[simp] theorem evS_asg {i : Nat} {e : Ex} : evS F (.asg i e) r m = (evE F e r m).bind fun v m1 => .ok (.nx (r.set i (some v))) m1 := nr rfl
@[simp] theorem evS_unp {is : List Nat} {e : Ex} : evS F (.unp is e) r m = (evE F e r m).bind fun v m1 => match v with
    | .d x => match bindT r (.t is) x with
      | some r1 => .ok (.nx r1) m1
      | none => .no
    | _ => .no := nr rfl
@[simp] theorem evS_sti {o i e : Ex} : evS F (.sti o i e) r m = (evE F e r m).bind fun v m1 => (evE F o r m1).bind fun x m2 => (evE F i r m2).bind fun y m3 => (fz v m3).bind fun w m4 => match x, y with
    | .r n, .d k => match m4[n]? with
      | some (.dct kvs) => match kOf k with
        | some k => if kvs.length < sizeLine then .ok (.nx r) (m4.set n (.dct (putKK kvs k w))) else .no
        | none => .no
      | some (.lst xs) => match k with
        | .int j => match ixN xs.length j with
          | some j => .ok (.nx r) (m4.set n (.lst (xs.set j w)))
          | none => .no
        | _ => .no
      | _ => .no
    | _, _ => .no := nr rfl
@[simp] theorem evS_exp {e : Ex} : evS F (.exp e) r m = (evE F e r m).bind fun _ m1 => .ok (.nx r) m1 := nr rfl
@[simp] theorem evS_app {o e : Ex} : evS F (.app o e) r m = (evE F o r m).bind fun x m1 => match lsK m1 x with
    | some n => (evE F e r m1).bind fun v m2 => (fz v m2).bind fun w m3 => match m3[n]? with
      | some (.lst xs) => if xs.length < sizeLine then .ok (.nx r) (m3.set n (.lst (xs ++ [w]))) else .no
      | _ => .no
    | none => .no := nr rfl
@[simp] theorem evS_ext {o e : Ex} : evS F (.ext o e) r m = (evE F o r m).bind fun x m1 => match lsK m1 x with
    | some n => (evE F e r m1).bind fun v m2 => (fz v m2).bind fun w m3 => match m3[n]?, itemsOf w with
      | some (.lst xs), some ys => if xs.length + ys.length ≤ sizeLine then .ok (.nx r) (m3.set n (.lst (xs ++ ys))) else .no
      | _, _ => .no
    | none => .no := nr rfl
@[simp] theorem evS_ret {e : Ex} : evS F (.ret e) r m = (evE F e r m).bind fun v m1 => .ok (.rt v) m1 := nr rfl
@[simp] theorem evS_ret0 : evS F .ret0 r m = .ok (.rt (.d .none)) m := nr rfl
@[simp] theorem evS_ife {c : Ex} {a b : Sxs} : evS F (.ife c a b) r m = (evT F c r m).bind fun k m1 => match k with | true => evB F a r m1 | false => evB F b r m1 := nr rfl
@[simp] theorem evS_pas : evS F .pas r m = .ok (.nx r) m := nr rfl
@[simp] theorem fz_d {x : PyData} : fz (.d x) m = .ok x m := nr rfl
@[simp] theorem rd_d {x : PyData} : rd m (.d x) = some x := nr rfl
@[simp] theorem fzL_nil : fzL [] m = .ok [] m := nr rfl
@[simp] theorem fzL_cons {v : Vl} {vs : List Vl} : fzL (v :: vs) m = (fz v m).bind fun x m1 => (fzL vs m1).bind fun xs m2 => .ok (x :: xs) m2 := nr rfl
@[simp] theorem asB_b {b : Bool} : asB (.d (.bool b)) m = .ok b m := nr rfl
@[simp] theorem opB_some {b : Bool} : opB (some b) m = .ok (.d (.bool b)) m := nr rfl
@[simp] theorem opt_some {x : PyData} : opt (some x) m = .ok (.d x) m := nr rfl
@[simp] theorem mkl_f {xs : List PyData} : mkl false xs m = .ok (.d (.list xs)) m := nr rfl
@[simp] theorem mkl_t {xs : List PyData} : mkl true xs m = .ok (.r m.length) (m ++ [.lst xs]) := nr rfl
@[simp] theorem outM_val {fl : Bool} {x : PyData} : outM fl (some (.val x)) m = .ok (.d x) m := nr rfl
@[simp] theorem outM_lst {fl : Bool} {xs : List PyData} : outM fl (some (.lst xs)) m = mkl fl xs m := nr rfl
@[simp] theorem outM_dct {fl : Bool} {xs : List (Key × PyData)} : outM fl (some (.dct xs)) m = .ok (.r m.length) (m ++ [.dct xs]) := nr rfl
@[simp] theorem rd2_d {x y : PyData} {f : PyData → PyData → R Vl} : rd2 m (.d x) (.d y) f = f x y := nr rfl
@[simp] theorem Ct_non : Ct.v .non = .none := nr rfl
@[simp] theorem Ct_bl {b : Bool} : Ct.v (.bl b) = .bool b := nr rfl
@[simp] theorem Ct_int {i : Int} : Ct.v (.int i) = .int i := nr rfl
@[simp] theorem Ct_str {x : Str} : Ct.v (.str x) = .str x := nr rfl
end
/-! ### operations -/
section
variable {i j : Int} {x y : Str} {xs ys : List PyData}
theorem b_add : binop .add (.int i) (.int j) = some (.int (i + j)) := nr rfl
theorem b_sub : binop .sub (.int i) (.int j) = some (.int (i - j)) := nr rfl
theorem b_mod (h : 0 < j) : binop .mod (.int i) (.int j) = some (.int (i % j)) := if_pos h
theorem b_fdiv (h : 0 < j) (h2 : j < 1073741824) : binop .fdiv (.int i) (.int j) = some (.int (i / j)) := if_pos ⟨h, h2⟩
theorem b_mul_l (h : okI i = true) : binop .mul (.int i) (.int j) = some (.int (i * j)) := if_pos (by rw [h]; rfl)
theorem b_mul_r (h : okI j = true) : binop .mul (.int i) (.int j) = some (.int (i * j)) := if_pos (by rw [h]; cases okI i <;> rfl)
theorem b_pow (h : 0 ≤ j) (h2 : j ≤ 1000000) (h3 : i.natAbs < 2 ^ 64) : binop .pow (.int i) (.int j) = some (.int (i ^ j.toNat)) := if_pos ⟨h, h2, h3⟩
theorem b_adds (h : x.length + y.length ≤ sizeLine) : binop .add (.str x) (.str y) = some (.str (x ++ y)) := if_pos h
theorem b_addl (h : xs.length + ys.length ≤ sizeLine) : binop .add (.list xs) (.list ys) = some (.list (xs ++ ys)) := if_pos h
theorem b_addt (h : xs.length + ys.length ≤ sizeLine) : binop .add (.tuple xs) (.tuple ys) = some (.tuple (xs ++ ys)) := if_pos h
theorem okI_by (h : -(2 ^ 64) < i) (h2 : i < 2 ^ 64) : okI i = true := by simp only [okI, h, h2, decide_true, Bool.and_self]
theorem bl_lenl : bltop .len (.list xs) = some (.val (.int xs.length)) := nr rfl
theorem bl_lent : bltop .len (.tuple xs) = some (.val (.int xs.length)) := nr rfl
theorem bl_lens (h : x.length ≤ sizeLine) : bltop .len (.str x) = some (.val (.int x.length)) := if_pos h
theorem bl_tupl : bltop .tuple (.list xs) = some (.val (.tuple xs)) := nr rfl
theorem bl_tupt : bltop .tuple (.tuple xs) = some (.val (.tuple xs)) := nr rfl
theorem bl_lstl : bltop .list (.list xs) = some (.lst xs) := nr rfl
theorem bl_lstt : bltop .list (.tuple xs) = some (.lst xs) := nr rfl
theorem bl_stri (h : i.natAbs.log2 < 1920) : bltop .str (.int i) = some (.val (.str (toString i))) := if_pos h
theorem bl_strs : bltop .str (.str x) = some (.val (.str x)) := nr rfl
theorem bl_intb {b : Bool} : bltop .int (.bool b) = some (.val (.int (if b then 1 else 0))) := nr rfl
theorem i_list : idxop (.list xs) (.int i) = atI xs i := nr rfl
theorem i_tup : idxop (.tuple xs) (.int i) = atI xs i := nr rfl
theorem sl_list {lo hi : Option Int} : slop (.list xs) lo hi = some (.list (cutL xs lo hi)) := nr rfl
theorem sl_tup {lo hi : Option Int} : slop (.tuple xs) lo hi = some (.tuple (cutL xs lo hi)) := nr rfl
theorem sl_str {lo hi : Option Int} (h : x.length ≤ sizeLine) : slop (.str x) lo hi = some (.str (cutS x lo hi)) := if_pos h
theorem atI_pos {α : Type} {xs : List α} {i : Int} (h0 : 0 ≤ i) : atI xs i = xs[i.toNat]? := by
  unfold atI ixN
  rw [if_pos h0]
  by_cases h : i < xs.length
  · rw [if_pos h]; rfl
  · rw [if_neg h]
    exact (List.getElem?_eq_none (by omega)).symm
theorem atI_in {α : Type} {xs : List α} {i : Int} (h0 : 0 ≤ i) (h : i < xs.length) : ∃ x, atI xs i = some x ∧ x ∈ xs := by
  have hi : i.toNat < xs.length := by omega
  exact ⟨xs[i.toNat], by rw [atI_pos h0]; simp [hi], List.getElem_mem hi⟩
theorem atI_0 {α : Type} {x : α} {xs : List α} : atI (x :: xs) 0 = some x := by rw [atI_pos (Int.le_refl _)]; rfl
theorem atI_1 {α : Type} {x y : α} {xs : List α} : atI (x :: y :: xs) 1 = some y := by rw [atI_pos (by decide)]; rfl
theorem atI_2 {α : Type} {x y z : α} {xs : List α} : atI (x :: y :: z :: xs) 2 = some z := by rw [atI_pos (by decide)]; rfl
theorem atI_3 {α : Type} {x y z w : α} {xs : List α} : atI (x :: y :: z :: w :: xs) 3 = some w := by rw [atI_pos (by decide)]; rfl
theorem c_lt : cmpop .lt (.int i) (.int j) = some (decide (i < j)) := nr rfl
theorem c_le : cmpop .le (.int i) (.int j) = some (decide (i ≤ j)) := nr rfl
theorem c_gt : cmpop .gt (.int i) (.int j) = some (decide (j < i)) := nr rfl
theorem c_ge : cmpop .ge (.int i) (.int j) = some (decide (j ≤ i)) := nr rfl
theorem c_eqi : cmpop .eq (.int i) (.int j) = some (decide (i = j)) := by
  simp only [cmpop, eqop, scalD, if_true, PyData.eqv]
  rfl
theorem c_eqs : cmpop .eq (.str x) (.str y) = some (decide (x = y)) := by
  simp only [cmpop, eqop, scalD, if_true, PyData.eqv]
  rfl
theorem c_nes : cmpop .ne (.str x) (.str y) = some (!decide (x = y)) := by
  simp only [cmpop, eqop, scalD, if_true, PyData.eqv, Option.map_some]
  rfl
end
/-! ### entering a def -/
theorem call_ok {T : Str → Option Fn} {f : Str} {fn : Fn} {n : Nat} {vs : List Vl} {m : Mem} {Q : Vl → Mem → Prop} (hT : T f = some fn) (hl : vs.length = fn.np) 
    (h : Ok (evB (callN T n) fn.body (vs.map some ++ List.replicate (fn.ns - fn.np) none) m) (fun fl m1 => Ok (fin fn.raw m.length fl m1) Q)) : Ok (callN T (n + 1) f vs m) Q := by
  show Ok (match T f with | some fn => runF (callN T n) fn vs m | none => .no) Q
  rw [hT]
  show Ok (if vs.length = fn.np then (evB (callN T n) fn.body (vs.map some ++ List.replicate (fn.ns - fn.np) none) m).bind (fin fn.raw m.length) else .no) Q
  rw [if_pos hl, Ok_bind]
  exact h
@[simp] theorem fin_nx {raw : Bool} {k : Nat} {r : En} : fin raw k (.nx r) m = .ok (.d .none) (m.take k) := nr rfl
@[simp] theorem fin_d {raw : Bool} {k : Nat} {d : PyData} : fin raw k (.rt (.d d)) m = .ok (.d d) (m.take k) := by cases raw <;> exact nr rfl
@[simp] theorem fin_f {k : Nat} {v : Vl} : fin false k (.rt v) m = (fz v m).bind fun x m2 => .ok (.d x) (m2.take k) := by cases v <;> rfl
theorem fin_r {k n : Nat} {c : Cell} (hn : k ≤ n) (h : m[n]? = some c) : fin true k (.rt (.r n)) m = .ok (.r k) (m.take k ++ [c]) := by
  show (if n < k then _ else match m[n]? with | some c => R.ok (Vl.r k) (m.take k ++ [c]) | none => .no) = _
  rw [if_neg (by omega), h]
/-! ### loops -/
theorem lcL_ok {k : Nat} {f : PyData → Mem → R (Option PyData)} (I : Nat → List PyData → Mem → Prop) {Q : Unit → Mem → Prop} : ∀ {xs : List PyData} {n : Nat} {acc : List PyData} {m : Mem}, acc.length ≤ n → m[k]? = some (.lst acc) → I n acc m →
    (∀ i x m acc, (∃ j, xs[j]? = some x ∧ i = n + j) → m[k]? = some (.lst acc) → I i acc m → Ok (f x m) fun o m1 => m1[k]? = some (.lst acc) ∧ match o with
      | some y => I (i + 1) (acc ++ [y]) (m1.set k (.lst (acc ++ [y])))
      | none => I (i + 1) acc m1) →
    (∀ m acc, m[k]? = some (.lst acc) → I (n + xs.length) acc m → Q () m) → Ok (lcL k f n xs m) Q
  | [], n, acc, m, _, hk, h0, _, hq => .of (hq m acc hk h0)
  | x :: xs, n, acc, m, hl, hk, h0, hs, hq => by
    have st := hs n x m acc ⟨0, rfl, rfl⟩ hk h0
    have hk' : k < m.length := (List.getElem?_eq_some_iff.mp hk).1
    obtain ⟨o, m1, e, hk1, hi⟩ := st
    have up : ∀ i x m acc, (∃ j, xs[j]? = some x ∧ i = n + 1 + j) → m[k]? = some (.lst acc) → I i acc m → Ok (f x m) fun o m1 => m1[k]? = some (.lst acc) ∧ match o with
      | some y => I (i + 1) (acc ++ [y]) (m1.set k (.lst (acc ++ [y])))
      | none => I (i + 1) acc m1 := fun i x m acc ⟨j, h1, h2⟩ => hs i x m acc ⟨j + 1, by simpa using h1, by omega⟩
    have hq' : ∀ m acc, m[k]? = some (.lst acc) → I (n + 1 + xs.length) acc m → Q () m := fun m acc a b => hq m acc a (by rw [show n + (x :: xs).length = n + 1 + xs.length by simp; omega]; exact b)
    have hk1' : k < m1.length := (List.getElem?_eq_some_iff.mp hk1).1
    unfold lcL
    rw [e]
    cases o with
    | none => exact lcL_ok I (by omega) hk1 hi up hq'
    | some y =>
      simp only [hk1, if_pos hl]
      exact lcL_ok I (acc := acc ++ [y]) (by simp; omega) (by rw [List.getElem?_set_self hk1']) hi up hq'
theorem forL_ok {f : PyData → En → Mem → R Fl} (I : Nat → En → Mem → Prop) {Q : Fl → Mem → Prop} : ∀ {xs : List PyData} {n : Nat} {r : En} {m : Mem}, I n r m →
    (∀ i x r m, (∃ j, xs[j]? = some x ∧ i = n + j) → I i r m → Ok (f x r m) fun fl m1 => match fl with
      | .nx r1 => I (i + 1) r1 m1
      | .rt v => Q (.rt v) m1) →
    (∀ r m, I (n + xs.length) r m → Q (.nx r) m) → Ok (forL f xs r m) Q
  | [], n, r, m, h0, _, hq => .of (hq r m h0)
  | x :: xs, n, r, m, h0, hs, hq => by
    show Ok ((f x r m).bind _) Q
    rw [Ok_bind]
    refine (hs n x r m ⟨0, rfl, rfl⟩ h0).mono fun fl m1 h => ?_
    cases fl with
    | nx r1 => exact forL_ok I h (fun i x r m ⟨j, h1, h2⟩ => hs i x r m ⟨j + 1, by simpa using h1, by omega⟩) fun r m h => hq r m (by rw [show n + (x :: xs).length = n + 1 + xs.length by simp; omega]; exact h)
    | rt v => exact .of h
theorem whlL_ok {c : En → Mem → R Bool} {b : En → Mem → R Fl} (I : Nat → En → Mem → Prop) {Q : Fl → Mem → Prop} (hs : ∀ k r m, I k r m → Ok (c r m) fun g m1 => match g with
      | false => Q (.nx r) m1
      | true => Ok (b r m1) fun fl m2 => match fl with
        | .nx r1 => ∃ k', k' < k ∧ I k' r1 m2
        | .rt v => Q (.rt v) m2) : ∀ {n k : Nat} {r : En} {m : Mem}, I k r m → k < n → Ok (whlL c b n r m) Q
  | 0, k, r, m, _, h => absurd h (Nat.not_lt_zero _)
  | n + 1, k, r, m, h0, h => by
    show Ok ((c r m).bind _) Q
    rw [Ok_bind]
    refine (hs k r m h0).mono fun g m1 hg => ?_
    cases g with
    | false => exact .of hg
    | true =>
      show Ok ((b r m1).bind _) Q
      rw [Ok_bind]
      refine hg.mono fun fl m2 hf => ?_
      cases fl with
      | nx r1 =>
        obtain ⟨k', h1, h2⟩ := hf
        exact whlL_ok I hs h2 (by omega)
      | rt v => exact .of hf
/-! ### statements, one by one -/
section
variable {F : Fs} {r : En} {m : Mem} {Q : Fl → Mem → Prop}
theorem xB {s : Sx} {b : Sxs} (h : Ok (evS F s r m) fun fl m1 => match fl with | .nx r1 => Ok (evB F b r1 m1) Q | .rt v => Q (.rt v) m1) : Ok (evB F (.cons s b) r m) Q := by
  rw [evB_cons, Ok_bind]
  refine h.mono fun fl m1 q => ?_
  cases fl with
  | nx r1 => exact q
  | rt v => exact .of q
theorem x_asg {i : Nat} {e : Ex} (h : Ok (evE F e r m) fun v m1 => Q (.nx (r.set i (some v))) m1) : Ok (evS F (.asg i e) r m) Q := by rw [evS_asg, Ok_bind]; exact h.mono fun _ _ q => .of q
theorem x_ret {e : Ex} (h : Ok (evE F e r m) fun v m1 => Q (.rt v) m1) : Ok (evS F (.ret e) r m) Q := by rw [evS_ret, Ok_bind]; exact h.mono fun _ _ q => .of q
theorem x_ife {c : Ex} {a b : Sxs} (h : Ok (evE F c r m) fun v m1 => ∃ k, v = .d (.bool k) ∧ (k = true → Ok (evB F a r m1) Q) ∧ (k = false → Ok (evB F b r m1) Q)) : Ok (evS F (.ife c a b) r m) Q := by
  rw [evS_ife, evT_eq, Ok_bind, Ok_bind]
  refine h.mono fun v m1 ⟨k, e, h1, h2⟩ => ?_
  subst e
  refine .of ?_
  cases k with
  | true => exact h1 rfl
  | false => exact h2 rfl
theorem x_nil (h : Q (.nx r) m) : Ok (evB F .nil r m) Q := .of h
theorem x_rng {tg : Tg} {e : Ex} {b : Sxs} (h : Ok (evE F e r m) fun v m1 => ∃ K : Int, v = .d (.int K) ∧ 0 ≤ K ∧ K ≤ 16777216 ∧ Ok (forL (fun x r1 m2 => match bindT r1 tg x with | some r2 => evB F b r2 m2 | none => .no) (rngL 0 K) r m1) Q) : Ok (evS F (.forr tg (.rng e) b) r m) Q := by
  show Ok ((evI F (.rng e) r m).bind _) Q
  rw [Ok_bind, evI_rng, Ok_bind]
  refine h.mono fun v m1 ⟨K, e1, h0, h1, hq⟩ => ?_
  subst e1
  have hr : rngOk 0 K = true := by
    unfold rngOk
    have : (K - 0).toNat ≤ sizeLine := by have : sizeLine = 16777216 := rfl; omega
    simp only [this, decide_true, Bool.and_true, Bool.and_eq_true, decide_eq_true_eq]
    omega
  show Ok (if rngOk 0 K = true then R.ok (rngL 0 K) m1 else R.no) _
  rw [if_pos hr, Ok_ok]
  exact hq
theorem rngL_len {K : Int} : (rngL 0 K).length = K.toNat := by unfold rngL; simp
theorem rngL_at {K : Int} {i : Nat} {x : PyData} (h : (rngL 0 K)[i]? = some x) : x = .int i ∧ (i : Int) < K := by
  unfold rngL at h
  rw [List.getElem?_map] at h
  have hi : i < K.toNat := by
    rcases Nat.lt_or_ge i K.toNat with q | q
    · exact q
    · rw [List.getElem?_eq_none (by simpa using q)] at h; cases h
  rw [List.getElem?_range (by simpa using hi)] at h
  cases h
  exact ⟨by simp, by omega⟩
theorem x_each {tg : Tg} {e : Ex} {b : Sxs} (h : Ok (evE F e r m) fun v m1 => Ok (fz v m1) fun d m2 => ∃ xs, itemsOf d = some xs ∧ Ok (forL (fun x r1 m2 => match bindT r1 tg x with | some r2 => evB F b r2 m2 | none => .no) xs r m2) Q) : Ok (evS F (.forr tg (.e e) b) r m) Q := by
  show Ok ((evI F (.e e) r m).bind _) Q
  rw [Ok_bind, evI_e, Ok_bind]
  refine h.mono fun v m1 h => ?_
  rw [Ok_bind]
  refine h.mono fun d m2 ⟨xs, e1, hq⟩ => ?_
  cases d <;> first | (cases e1; exact .of hq) | cases e1
theorem x_for {tg : Tg} {it : Mp.It} {b : Sxs} (h : Ok (evI F it r m) fun xs m1 => Ok (forL (fun x r1 m2 => match bindT r1 tg x with | some r2 => evB F b r2 m2 | none => .no) xs r m1) Q) : Ok (evS F (.forr tg it b) r m) Q := by
  show Ok ((evI F it r m).bind _) Q
  rw [Ok_bind]
  exact h
theorem x_whl {n : Nat} {c : Ex} {b : Sxs} (h : Ok (whlL (fun r m => evT F c r m) (fun r m => evB F b r m) n r m) Q) : Ok (evS F (.whl n c b) r m) Q := h
theorem x_put {o k : Nat} {key : Str} {e : Ex} (ho : r[o]? = some (some (.r k))) (h : Ok (evE F e r m) fun v m1 => ∃ w kvs, v = .d w ∧ m1[k]? = some (.dct kvs) ∧ kvs.length < sizeLine ∧ (∀ m2, m2[k]? = some (.dct (putKK kvs (.inr key) w)) → m2.length = m1.length → (∀ j, j ≠ k → m2[j]? = m1[j]?) → Q (.nx r) m2)) : Ok (evS F (.sti (.var o) (.cst (.str key)) e) r m) Q := by
  rw [evS_sti, Ok_bind]
  refine h.mono fun v m1 ⟨w, kvs, e, hk, hl, hq⟩ => ?_
  subst e
  simp only [evE_var, evE_cst, ho, Ok_bind, Ok_ok, fz_d, hk, Ct_str, kOf, if_pos hl]
  exact hq _ (List.getElem?_set_self (List.getElem?_eq_some_iff.mp hk).1) (List.length_set ..) fun j hj => List.getElem?_set_ne (Ne.symm hj)
/-- the store of an item of a list that lives -/
theorem x_seti {o k : Nat} {i e : Ex} (ho : r[o]? = some (some (.r k))) (h : Ok (evE F e r m) fun v m1 => ∃ w, v = .d w ∧ Ok (evE F i r m1) fun y m2 => ∃ j xs j', y = .d (.int j) ∧ m2[k]? = some (.lst xs) ∧ ixN xs.length j = some j' ∧ (∀ m3, m3[k]? = some (.lst (xs.set j' w)) → m3.length = m2.length → (∀ j, j ≠ k → m3[j]? = m2[j]?) → Q (.nx r) m3)) : Ok (evS F (.sti (.var o) i e) r m) Q := by
  rw [evS_sti, Ok_bind]
  refine h.mono fun v m1 ⟨w, e, h2⟩ => ?_
  subst e
  simp only [evE_var, ho, Ok_bind, Ok_ok]
  refine h2.mono fun y m2 ⟨j, xs, j', e, hk, hj, hq⟩ => ?_
  subst e
  simp only [fz_d, Ok_ok, hk, hj]
  exact hq _ (List.getElem?_set_self (List.getElem?_eq_some_iff.mp hk).1) (List.length_set ..) fun j hj => List.getElem?_set_ne (Ne.symm hj)
theorem x_app {o k : Nat} {e : Ex} {xs : List PyData} (ho : r[o]? = some (some (.r k))) (hk : m[k]? = some (.lst xs)) (h : Ok (evE F e r m) fun v m1 => ∃ w xs, v = .d w ∧ m1[k]? = some (.lst xs) ∧ xs.length < sizeLine ∧ (∀ m2, m2[k]? = some (.lst (xs ++ [w])) → m2.length = m1.length → (∀ j, j ≠ k → m2[j]? = m1[j]?) → Q (.nx r) m2)) : Ok (evS F (.app (.var o) e) r m) Q := by
  have hl : lsK m (.r k) = some k := by simp [lsK, hk]
  rw [evS_app]
  simp only [evE_var, ho, Ok_bind, Ok_ok, hl]
  refine h.mono fun v m1 ⟨w, xs, e, hk1, hz, hq⟩ => ?_
  subst e
  simp only [fz_d, Ok_ok, hk1, if_pos hz]
  exact hq _ (List.getElem?_set_self (List.getElem?_eq_some_iff.mp hk1).1) (List.length_set ..) fun j hj => List.getElem?_set_ne (Ne.symm hj)
end
end Mp
-- Ev2
set_option Elab.async false
set_option linter.all false
set_option maxRecDepth 100000
set_option maxHeartbeats 2000000
namespace Mp
open PySem L2

/-! ## which cells stand -/
def Frm (S : List Nat) (m m' : Mem) : Prop := m'.length = m.length ∧ ∀ j, j ∉ S → m'[j]? = m[j]?
theorem Frm.refl (S : List Nat) (m : Mem) : Frm S m m := ⟨rfl, fun _ _ => rfl⟩
theorem Frm.trans {S : List Nat} {m1 m2 m3 : Mem} (a : Frm S m1 m2) (b : Frm S m2 m3) : Frm S m1 m3 := ⟨b.1.trans a.1, fun j h => (b.2 j h).trans (a.2 j h)⟩
theorem Frm.set {S : List Nat} {m : Mem} {k : Nat} {c : Cell} (h : k ∈ S) : Frm S m (m.set k c) := ⟨List.length_set .., fun j hj => List.getElem?_set_ne (by rintro rfl; exact hj h)⟩
theorem Frm.weak {S S' : List Nat} {m m' : Mem} (h : Frm S m m') (hs : ∀ j ∈ S, j ∈ S') : Frm S' m m' := ⟨h.1, fun j hj => h.2 j fun q => hj (hs j q)⟩
theorem Frm.take {S : List Nat} {m m' : Mem} {k : Nat} (h : Frm S m m') (hk : k = m.length) : Frm S m (m'.take k) := by
  rw [List.take_of_length_le (by rw [h.1]; omega)]
  exact h
theorem lt_of_at {m : Mem} {k : Nat} {c : Cell} (h : m[k]? = some c) : k < m.length := (List.getElem?_eq_some_iff.mp h).1
/-! ## the feed -/
def feedD (cs : List Int) (a l : Int) : List (Key × PyData) := [(.inr "cells", .list (cs.map .int)), (.inr "at", .int a), (.inr "left", .int l)]
def Fd (c : Int) (m : Mem) (kf : Nat) : Prop := ∃ (cs : List Int) (a l : Int), m[kf]? = some (.dct (feedD cs a l)) ∧ 0 ≤ a ∧ a ≤ c ∧ 0 ≤ l ∧ c ≤ 2 ^ 62
theorem Fd.weak {c c' : Int} {m : Mem} {kf : Nat} (h : Fd c m kf) (hc : c ≤ c') (h2 : c' ≤ 2 ^ 62) : Fd c' m kf := by
  obtain ⟨cs, a, l, h1, h3, h4, h5, h6⟩ := h
  exact ⟨cs, a, l, h1, h3, by omega, h5, h2⟩
section
variable {cs : List Int} {a l : Int} {v : PyData}
theorem fd_left : idxop (.dict (reK (feedD cs a l))) (.str "left") = some (.int l) := by rfl
theorem fd_at : idxop (.dict (reK (feedD cs a l))) (.str "at") = some (.int a) := by rfl
theorem fd_cells : idxop (.dict (reK (feedD cs a l))) (.str "cells") = some (.list (cs.map .int)) := by rfl
theorem fd_pleft {x : Int} : putKK (feedD cs a l) (.inr "left") (.int x) = feedD cs a x := by rfl
theorem fd_pat {x : Int} : putKK (feedD cs a l) (.inr "at") (.int x) = feedD cs x l := by rfl
theorem fd_len : (feedD cs a l).length < sizeLine := by show 3 < 2 ^ 24; decide
end
theorem ints_shaped : ∀ {cs : List Int}, PyData.canLayAll0 (cs.map .int) = true ∧ PyData.depthAll (cs.map .int) = 0
  | [] => ⟨rfl, rfl⟩
  | c :: cs => by
    obtain ⟨a, b⟩ := ints_shaped (cs := cs)
    rw [List.map_cons, PyData.canLayAll0, PyData.depthAll, a, b]
    exact ⟨rfl, rfl⟩
def Shp (xs : List PyData) : Prop := PyData.canLayAll0 xs = true ∧ PyData.depthAll xs ≤ 63
theorem Shp.sh {xs : List PyData} (h : Shp xs) : SeqAt.shaped (.list xs) = true := by
  unfold SeqAt.shaped
  rw [PyData.canLay0, PyData.depth, h.1]
  exact decide_eq_true (by have := h.2; omega)
theorem Shp.nil : Shp [] := ⟨rfl, Nat.zero_le _⟩
theorem eq_lists {xs ys : List PyData} (hx : Shp xs) (hy : Shp ys) : eqop (.list xs) (.list ys) = some (PyData.eqv (.list xs) (.list ys)) := by
  unfold eqop
  rw [if_neg (by exact Bool.false_ne_true), hx.sh, hy.sh]
  rfl
theorem eqv_lists {xs ys : List PyData} : PyData.eqv (.list xs) (.list ys) = PyData.eqvAll xs ys := by rw [PyData.eqv]
theorem eq_nil {xs : List PyData} (hx : Shp xs) : cmpop .eq (.list xs) (.list []) = some xs.isEmpty := by
  show eqop _ _ = _
  rw [eq_lists hx .nil, eqv_lists]
  cases xs <;> rfl
theorem ne_nil {xs : List PyData} (hx : Shp xs) : cmpop .ne (.list xs) (.list []) = some (!xs.isEmpty) := by
  show (eqop _ _).map _ = _
  rw [eq_lists hx .nil, eqv_lists]
  cases xs <;> rfl
local macro_rules
  | `(tactic| trivial) => `(tactic| simp only [evE_var, evE_cst, evE_bin, evE_neg, evE_cmp, evE_and, evE_or, evE_not, evE_ite, evE_tup, evE_lst, evE_dic, evE_idx, evE_slf, evE_slt, evE_sl2, evE_call, evE_isi, evE_blt, evE_mth, evL_nil, evL_cons, evAnd_one, evAnd_cons, evOr_one, evOr_cons, evS_sti, evS_app, evS_ext, evS_unp,
    Ok_bind, Ok_ok, bind_ok, Ct_non, Ct_bl, Ct_int, Ct_str, List.getElem?_cons_zero, List.getElem?_cons_succ, List.set_cons_zero, List.set_cons_succ, rd2, rd_d, rd2_d, opt_some, opB_some, asB_b, fz_d, fzL_nil, fzL_cons, fd_left, fd_at, fd_cells, mkl_f, mkl_t, outM_val, outM_lst, outM_dct, b_add, b_sub, b_mod, b_fdiv, b_mul_l, b_mul_r, c_lt, c_le, c_gt, c_ge, c_eqi, c_eqs, c_nes, Int.reduceLT, Int.reduceLE, bl_lenl, bl_lent, bl_lens, bl_tupl, bl_tupt, bl_lstl, bl_lstt, bl_stri, bl_strs, bl_intb, i_list, i_tup, atI_0, atI_1, atI_2, atI_3, sl_list, sl_tup, sl_str, isiop, negop, kOf, and_self, true_and, and_true, ite_true, ite_false, if_true, if_false, Bool.true_or, Bool.or_true, Bool.false_or, Bool.or_false, Bool.not_true, Bool.not_false, decide_true, decide_false, Option.map_some, *])
section
variable {T : Str → Option Fn}
theorem rd_at {m : Mem} {k : Nat} {l : List (Key × PyData)} (h : m[k]? = some (.dct l)) : rd m (.r k) = some (.dict (reK l)) := by simp [rd, h]
def drawQ (c many : Int) (m : Mem) (kf : Nat) (v : Vl) (m' : Mem) : Prop := ∃ i : Int, v = .d (.int i) ∧ 0 ≤ i ∧ i < many ∧ Fd (c + 1) m' kf ∧ Frm [kf] m m'
theorem draw_ok {n : Nat} {c many : Int} {m : Mem} {kf : Nat} (hT : T "_law_draw" = some F_law_draw) (hm : Fd c m kf) (h1 : 0 < many) (h2 : many < 1073741824) (hc : c + 1 ≤ 2 ^ 62) :
    Ok (callN T (n + 1) "_law_draw" [.r kf, .d (.int many)] m) (drawQ c many m kf) := by
  obtain ⟨cs, a, l, hk, ha, hac, hl, _⟩ := hm
  have hlt := lt_of_at hk
  have e := rd_at hk
  refine call_ok hT rfl ?_
  show Ok (evB (callN T n) F_law_draw.body [some (.r kf), some (.d (.int many)), none, none, none, none] m) fun fl m1 => Ok (fin false m.length fl m1) (drawQ c many m kf)
  refine xB (x_ife ?_)
  trivial
  refine ⟨_, rfl, fun h => ?_, fun h => ?_⟩
  · have h := of_decide_eq_true h
    refine xB (x_asg ?_)
    trivial
    refine xB (x_put (k := kf) rfl ?_)
    trivial
    refine ⟨_, _, rfl, rfl, fd_len, fun m1 hk1 hl1 hf1 => ?_⟩
    rw [fd_pleft] at hk1
    refine xB (x_ret ?_)
    trivial
    simp only [fin_d, Ok_ok]
    have fr : Frm [kf] m m1 := ⟨hl1, fun j hj => hf1 j (by simpa using hj)⟩
    rw [List.take_of_length_le (by rw [hl1]; exact Nat.le_refl _)]
    exact ⟨_, rfl, Int.emod_nonneg _ (by omega), Int.emod_lt_of_pos _ h1, ⟨cs, a, _, hk1, ha, by omega, Int.ediv_nonneg hl (by omega), hc⟩, fr⟩
  · refine x_nil ?_
    show Ok _ _
    refine xB (x_asg ?_)
    trivial
    refine xB (x_put (k := kf) rfl ?_)
    trivial
    refine ⟨_, _, rfl, rfl, fd_len, fun m1 hk1 hl1 hf1 => ?_⟩
    rw [fd_pat] at hk1
    have fr : Frm [kf] m m1 := ⟨hl1, fun j hj => hf1 j (by simpa using hj)⟩
    have e1 := rd_at hk1
    show Ok _ _
    have oa : okI a = true := okI_by (by omega) (by omega)
    refine xB (x_asg ?_)
    trivial
    refine xB ?_
    suffices hh : ∀ x : Int, Ok (evB (callN T n) (match F_law_draw.body with | .cons _ (.cons _ (.cons _ (.cons _ (.cons _ b)))) => b | b => b) [some (.r kf), some (.d (.int many)), some (.d (.int a)), some (.d (.int x)), none, none] m1) (fun fl m1 => Ok (fin false m.length fl m1) (drawQ c many m kf)) from by
      refine x_ife ?_
      trivial
      rw [ne_nil ⟨ints_shaped.1, by rw [ints_shaped.2]; decide⟩]
      trivial
      refine ⟨_, rfl, fun h => ?_, fun h => x_nil (hh _)⟩
      refine xB (x_asg ?_)
      have hpos : (0 : Int) < ((cs.map PyData.int).length : Int) := by
        cases cs with
        | nil => cases h
        | cons _ _ => simp
      obtain ⟨x, ex, hx⟩ := atI_in (xs := cs.map PyData.int) (i := a % ((cs.map PyData.int).length : Int)) (Int.emod_nonneg _ (by omega)) (Int.emod_lt_of_pos _ hpos)
      obtain ⟨y, _, rfl⟩ := List.mem_map.mp hx
      trivial
      exact x_nil (hh y)
    intro x
    show Ok (evB (callN T n) (.cons _ _) _ _) _
    have o1 : okI 104729 = true := rfl
    have o2 : okI 48271 = true := rfl
    have o3 : okI 7919 = true := rfl
    have o4 : okI 69621 = true := rfl
    have p1 : binop .pow (.int 10) (.int 18) = some (.int (10 ^ 18)) := rfl
    refine xB (x_ife ?_)
    trivial
    refine ⟨_, rfl, fun h => ?_, fun h => ?_⟩
    · have h := of_decide_eq_true h
      refine xB (x_put (k := kf) rfl ?_)
      trivial
      refine ⟨_, _, rfl, rfl, fd_len, fun m2 hk2 hl2 hf2 => ?_⟩
      rw [fd_pleft] at hk2
      refine xB (x_ret ?_)
      trivial
      simp only [fin_d, Ok_ok]
      have fr2 : Frm [kf] m1 m2 := ⟨hl2.trans hl1.symm, fun j hj => hf2 j (by simpa using hj)⟩
      rw [List.take_of_length_le (by rw [hl2]; exact Nat.le_refl _)]
      exact ⟨_, rfl, Int.emod_nonneg _ (by omega), Int.emod_lt_of_pos _ h1, ⟨cs, a + 1, _, hk2, by omega, by omega, Int.ediv_nonneg (by omega) (by omega), hc⟩, fr.trans fr2⟩
    · refine x_nil ?_
      show Ok _ _
      refine xB (x_asg ?_)
      trivial
      generalize hg : (x % 2147483647 + 104729 * a + 1) * 48271 % 2147483629 = g1
      have g0 : 0 ≤ g1 := by rw [← hg]; exact Int.emod_nonneg _ (by decide)
      have g2 : g1 < 2147483629 := by rw [← hg]; exact Int.emod_lt_of_pos _ (by decide)
      have og : okI g1 = true := okI_by (by omega) (by omega)
      refine xB (x_asg ?_)
      trivial
      refine xB (x_asg ?_)
      trivial
      generalize hg2 : ((g1 * g1 + 7919 * a + 5) % 2147483647 * 69621 + a) % 2147483629 = g4
      have g5 : 0 ≤ g4 := by rw [← hg2]; exact Int.emod_nonneg _ (by decide)
      have g6 : g4 < 2147483629 := by rw [← hg2]; exact Int.emod_lt_of_pos _ (by decide)
      have og2 : okI g4 = true := okI_by (by omega) (by omega)
      refine xB (x_ret ?_)
      trivial
      simp only [fin_d, Ok_ok]
      rw [List.take_of_length_le (by rw [hl1]; exact Nat.le_refl _)]
      exact ⟨_, rfl, Int.emod_nonneg _ (by omega), Int.emod_lt_of_pos _ h1, ⟨cs, a + 1, l, hk1, by omega, by omega, hl, hc⟩, fr⟩
end
end Mp
-- Ev3
set_option Elab.async false
set_option linter.all false
set_option maxRecDepth 100000
set_option maxHeartbeats 2000000
namespace Mp
open PySem L2
local macro_rules
  | `(tactic| trivial) => `(tactic| simp only [evE_var, evE_cst, evE_bin, evE_neg, evE_cmp, evE_and, evE_or, evE_not, evE_ite, evE_tup, evE_lst, evE_dic, evE_idx, evE_slf, evE_slt, evE_sl2, evE_call, evE_isi, evE_blt, evE_mth, evL_nil, evL_cons, evAnd_one, evAnd_cons, evOr_one, evOr_cons, evS_sti, evS_app, evS_ext, evS_unp,
    Ok_bind, Ok_ok, bind_ok, Ct_non, Ct_bl, Ct_int, Ct_str, List.getElem?_cons_zero, List.getElem?_cons_succ, List.set_cons_zero, List.set_cons_succ, rd2, rd_d, rd2_d, opt_some, opB_some, asB_b, fz_d, fzL_nil, fzL_cons, mkl_f, mkl_t, outM_val, outM_lst, outM_dct, b_add, b_sub, b_mod, b_fdiv, b_mul_l, b_mul_r, c_lt, c_le, c_gt, c_ge, c_eqi, c_eqs, c_nes, Int.reduceLT, Int.reduceLE, bl_lenl, bl_lent, bl_lens, bl_tupl, bl_tupt, bl_lstl, bl_lstt, bl_stri, bl_strs, bl_intb, i_list, i_tup, atI_0, atI_1, atI_2, atI_3, sl_list, sl_tup, sl_str, isiop, negop, kOf, and_self, true_and, and_true, ite_true, ite_false, if_true, if_false, Bool.true_or, Bool.or_true, Bool.false_or, Bool.or_false, Bool.not_true, Bool.not_false, decide_true, decide_false, Option.map_some, *])

section
variable {T : Str → Option Fn}
theorem take_same {m m' : Mem} (h : m'.length = m.length) : m'.take m.length = m' := List.take_of_length_le (by rw [h]; exact Nat.le_refl _)
def valQ (c : Int) (m : Mem) (kf : Nat) (v : Vl) (m' : Mem) : Prop := ∃ i : Int, v = .d (.int i) ∧ 0 ≤ i ∧ i ≤ 999999999 ∧ Fd (c + 3) m' kf ∧ Frm [kf] m m'
theorem value_ok {n : Nat} {c : Int} {m : Mem} {kf : Nat} (hD : T "_law_draw" = some F_law_draw) (hT : T "_law_value" = some F_law_value) (hm : Fd c m kf) (hc : c + 3 ≤ 2 ^ 62) :
    Ok (callN T (n + 2) "_law_value" [.r kf] m) (valQ c m kf) := by
  refine call_ok hT rfl ?_
  show Ok (evB (callN T (n + 1)) F_law_value.body [some (.r kf), none] m) fun fl m1 => Ok (fin false m.length fl m1) (valQ c m kf)
  have o1 : okI 25000 = true := rfl
  have o2 : okI 3 = true := rfl
  refine xB (x_asg ?_)
  trivial
  refine (draw_ok hD hm (by decide) (by decide) (by omega)).mono ?_
  rintro v m1 ⟨i, rfl, i0, i1, hm1, fr1⟩
  refine xB (x_ife ?_)
  trivial
  refine ⟨_, rfl, fun h => ?_, fun h => x_nil ?_⟩
  · refine xB (x_ret ?_)
    trivial
    refine (draw_ok hD hm1 (by decide) (by decide) (by omega)).mono ?_
    rintro v m2 ⟨j, rfl, j0, j1, hm2, fr2⟩
    trivial
    have fr := fr1.trans fr2
    simp only [fin_d, Ok_ok, take_same fr.1]
    exact ⟨_, rfl, by omega, by omega, hm2.weak (by omega) (by omega), fr⟩
  · have h := of_decide_eq_false h
    show Ok _ _
    refine xB (x_ife ?_)
    trivial
    refine ⟨_, rfl, fun h2 => ?_, fun h2 => x_nil ?_⟩
    · refine xB (x_ret ?_)
      trivial
      refine (draw_ok hD hm1 (by decide) (by decide) (by omega)).mono ?_
      rintro v m2 ⟨j, rfl, j0, j1, hm2, fr2⟩
      trivial
      refine (draw_ok hD hm2 (by decide) (by decide) (by omega)).mono ?_
      rintro v m3 ⟨l, rfl, l0, l1, hm3, fr3⟩
      trivial
      have fr := fr1.trans (fr2.trans fr3)
      simp only [fin_d, Ok_ok, take_same fr.1]
      exact ⟨_, rfl, by omega, by omega, hm3.weak (by omega) (by omega), fr⟩
    · have h2 := of_decide_eq_false h2
      show Ok _ _
      refine xB (x_ret ?_)
      trivial
      refine (draw_ok hD hm1 (by omega) (by omega) (by omega)).mono ?_
      rintro v m2 ⟨j, rfl, j0, j1, hm2, fr2⟩
      have fr := fr1.trans fr2
      simp only [fin_d, Ok_ok, take_same fr.1]
      exact ⟨_, rfl, by omega, by omega, hm2.weak (by omega) (by omega), fr⟩

/-! ### letters -/
def spell : Nat → Nat → List Nat
  | _, 0 => []
  | n, k + 1 => (97 + n % 26) :: spell (n / 26) k
theorem spell_len : ∀ (k n : Nat), (spell n k).length = k
  | 0, _ => rfl
  | k + 1, n => by rw [spell, List.length_cons, spell_len k]
theorem spell_low : ∀ (k n : Nat), ∀ c ∈ spell n k, 97 ≤ c ∧ c ≤ 122
  | 0, _, c, h => by cases h
  | k + 1, n, c, h => by
    rw [spell, List.mem_cons] at h
    rcases h with rfl | h
    · have := Nat.mod_lt n (show 0 < 26 by decide); omega
    · exact spell_low k _ c h
theorem spell_snoc : ∀ (k n : Nat), spell n (k + 1) = spell n k ++ [97 + n / 26 ^ k % 26]
  | 0, n => by simp [spell]
  | k + 1, n => by
    rw [spell, spell_snoc k (n / 26), spell, List.cons_append, Nat.div_div_eq_div_mul]
    rw [show 26 * 26 ^ k = 26 ^ (k + 1) by rw [Nat.pow_succ, Nat.mul_comm]]
theorem spell_inj : ∀ (k s t : Nat), spell s k = spell t k → s % 26 ^ k = t % 26 ^ k
  | 0, s, t, _ => by simp [Nat.mod_one]
  | k + 1, s, t, h => by
    rw [spell, spell, List.cons.injEq] at h
    have ih := spell_inj k _ _ h.2
    have h1 : s % 26 = t % 26 := by omega
    rw [Nat.pow_succ, Nat.mul_comm, Nat.mod_mul, Nat.mod_mul, ih, h1]
def stL (l : List Nat) : Str := ⟨l.toArray⟩
def alpha : Str := "abcdefghijklmnopqrstuvwxyz"
theorem alpha_at (j : Nat) (h : j < 26) : atI alpha.cps.toList (j : Int) = some (97 + j) := by
  have q : ∀ j : Fin 26, atI alpha.cps.toList ((j : Nat) : Int) = some (97 + (j : Nat)) := by decide +kernel
  exact q ⟨j, h⟩
theorem alpha_ix (j : Nat) (h : j < 26) : idxop (.str alpha) (.int (j : Int)) = some (.str (stL [97 + j])) := by
  show (if alpha.length ≤ sizeLine then (atI alpha.cps.toList (j : Int)).map fun c => PyData.str ⟨#[c]⟩ else none) = _
  rw [if_pos (by decide +kernel), alpha_at j h]
  rfl
theorem stL_add (a b : List Nat) : stL a ++ stL b = stL (a ++ b) := by
  show Str.append _ _ = _
  simp [Str.append, stL]
theorem stL_len (a : List Nat) : (stL a).length = a.length := by simp [stL, Str.length]
def splQ (m : Mem) (x : Nat) (k : Nat) (v : Vl) (m' : Mem) : Prop := v = .d (.str (stL (spell x k))) ∧ m' = m
theorem spelled_ok {n : Nat} {m : Mem} {x k : Nat} (hT : T "_law_spelled" = some F_law_spelled) (hk : k ≤ 8) : Ok (callN T (n + 1) "_law_spelled" [.d (.int (x : Int)), .d (.int (k : Int))] m) (splQ m x k) := by
  generalize hX : (x : Int) = X
  generalize hK : (k : Int) = K
  refine call_ok hT rfl ?_
  show Ok (evB (callN T n) F_law_spelled.body [some (.d (.int X)), some (.d (.int K)), none, none] m) fun fl m1 => Ok (fin false m.length fl m1) (splQ m x k)
  refine xB (x_asg ?_)
  trivial
  refine xB (x_rng ?_)
  trivial
  refine ⟨K, rfl, by omega, by omega, ?_⟩
  have hl : (rngL 0 K).length = k := by rw [rngL_len]; omega
  refine forL_ok (fun i r m1 => m1 = m ∧ i ≤ k ∧ ∃ w Y, Y = ((x / 26 ^ i : Nat) : Int) ∧ r = [some (.d (.int Y)), some (.d (.int K)), some (.d (.str (stL (spell x i)))), w]) (n := 0) ⟨rfl, Nat.zero_le _, none, X, ?_, rfl⟩ ?_ ?_
  · simp [hX]
  · rintro i y r m1 ⟨j, hj, rfl⟩ ⟨rfl, hi, w, Y, hY, rfl⟩
    have hjk : j < k := by rw [← hl]; exact (List.getElem?_eq_some_iff.mp hj).1
    rw [Nat.zero_add] at hi hY ⊢
    show Ok (evB (callN T n) _ [_, _, _, some (.d y)] m1) _
    have a1 := alpha_ix ((x / 26 ^ j) % 26) (Nat.mod_lt _ (by decide))
    have a2 : Y % 26 = (((x / 26 ^ j) % 26 : Nat) : Int) := by omega
    have a3 : Y / 26 = ((x / 26 ^ (j + 1) : Nat) : Int) := by
      rw [Nat.pow_succ, ← Nat.div_div_eq_div_mul]; omega
    have a4 : (stL (spell x j)).length + (stL [97 + x / 26 ^ j % 26]).length ≤ sizeLine := by
      rw [stL_len, stL_len, spell_len]; have : sizeLine = 16777216 := rfl; rw [this]; simp; omega
    rw [← a2] at a1
    refine xB (x_asg ?_)
    show Ok (evE (callN T n) (.bin .add (.var 2) (.idx (.cst (.str alpha)) (.bin .mod (.var 0) (.cst (.int 26))))) _ m1) _
    clear hX hK hY a2
    trivial
    rw [b_adds a4]
    trivial
    refine xB (x_asg ?_)
    trivial
    refine x_nil ?_
    refine ⟨rfl, by omega, some (.d y), _, rfl, ?_⟩
    rw [stL_add, ← spell_snoc]
  · rintro r m1 ⟨rfl, hi, w, Y, hY, rfl⟩
    rw [hl, Nat.zero_add]
    refine xB (x_ret ?_)
    trivial
    simp only [fin_d, Ok_ok, take_same rfl]
    exact ⟨rfl, rfl⟩
end
end Mp
-- Ev4
set_option Elab.async false
set_option linter.all false
set_option maxRecDepth 100000
set_option maxHeartbeats 2000000
namespace Mp
open PySem L2
/-! ### texts -/
def Sxs.tl : Nat → Sxs → Sxs
  | n + 1, .cons _ b => Sxs.tl n b
  | _, b => b
def Low (x : Str) : Prop := ∀ c ∈ x.cps.toList, 97 ≤ c ∧ c ≤ 122
def Nm (x : Str) : Prop := Low x ∧ 1 ≤ x.length ∧ x.length ≤ 8
theorem stL_inj {a b : List Nat} (h : stL a = stL b) : a = b := by
  have := congrArg (fun s : Str => s.cps.toList) h
  simpa [stL] using this
theorem stL_of (x : Str) : x = stL x.cps.toList := by cases x; simp [stL]
theorem Low.stL {l : List Nat} (h : ∀ c ∈ l, 97 ≤ c ∧ c ≤ 122) : Low (stL l) := by simpa [Low, Mp.stL] using h
theorem Low.add {x y : Str} (hx : Low x) (hy : Low y) : Low (x ++ y) := by
  rw [stL_of x, stL_of y, stL_add]
  refine Low.stL fun c h => ?_
  rcases List.mem_append.mp h with h | h
  · exact hx c h
  · exact hy c h
theorem add_len (x y : Str) : (x ++ y).length = x.length + y.length := by
  show (Str.append x y).cps.size = _
  simp [Str.append, Str.length]
theorem nm_spell {n k : Nat} (h0 : 1 ≤ k) (h : k ≤ 8) : Nm (stL (spell n k)) := ⟨.stL (spell_low k n), by rw [stL_len, spell_len]; exact ⟨h0, h⟩⟩
theorem all_flat {xs : List Str} : (xs.map PyData.str).all flatD = true := by simp [List.all_map, flatD]
theorem any_str {y : Str} {xs : List Str} : ((xs.map PyData.str).any fun z => PyData.eqv z (.str y)) = decide (y ∈ xs) := by
  rw [List.any_map]
  induction xs with
  | nil => rfl
  | cons z zs ih =>
    rw [List.any_cons, ih]
    simp only [Function.comp, PyData.eqv, List.mem_cons]
    by_cases h : y = z
    · subst h; simp
    · have : (z == y) = false := by simpa using fun e => h e.symm
      rw [this]
      simp [h]
theorem in_strs {y : Str} {xs : List Str} : cmpop .inn (.str y) (.list (xs.map .str)) = some (decide (y ∈ xs)) := by
  simp only [cmpop]
  show (if flatD (.str y) && (xs.map PyData.str).all flatD then some ((xs.map PyData.str).any fun z => PyData.eqv z (.str y)) else none) = _
  rw [all_flat, any_str]
  rfl
theorem nin_strs {y : Str} {xs : List Str} : cmpop .nin (.str y) (.list (xs.map .str)) = some (!decide (y ∈ xs)) := by
  have := in_strs (y := y) (xs := xs)
  simp only [cmpop] at this ⊢
  rw [this]
  rfl
def wrds : List Str := ["num", "name", "op", "pick", "let", "set", "say", "take", "do", "again", "call", "own", "hole"]
local macro_rules
  | `(tactic| trivial) => `(tactic| simp only [evE_var, evE_cst, evE_bin, evE_neg, evE_cmp, evE_and, evE_or, evE_not, evE_ite, evE_tup, evE_lst, evE_dic, evE_idx, evE_slf, evE_slt, evE_sl2, evE_call, evE_isi, evE_blt, evE_mth, evL_nil, evL_cons, evAnd_one, evAnd_cons, evOr_one, evOr_cons, evS_sti, evS_app, evS_ext, evS_unp,
    Ok_bind, Ok_ok, bind_ok, Ct_non, Ct_bl, Ct_int, Ct_str, List.getElem?_cons_zero, List.getElem?_cons_succ, List.set_cons_zero, List.set_cons_succ, rd2, rd_d, rd2_d, opt_some, opB_some, asB_b, fz_d, fzL_nil, fzL_cons, mkl_f, mkl_t, outM_val, outM_lst, outM_dct, b_add, b_sub, b_mod, b_fdiv, b_mul_l, b_mul_r, c_lt, c_le, c_gt, c_ge, c_eqi, c_eqs, c_nes, Int.reduceLT, Int.reduceLE, bl_lenl, bl_lent, bl_lens, bl_tupl, bl_tupt, bl_lstl, bl_lstt, bl_stri, bl_strs, bl_intb, i_list, i_tup, atI_0, atI_1, atI_2, atI_3, sl_list, sl_tup, sl_str, isiop, negop, in_strs, nin_strs, kOf, and_self, true_and, and_true, ite_true, ite_false, if_true, if_false, Bool.true_or, Bool.or_true, Bool.false_or, Bool.or_false, Bool.not_true, Bool.not_false, decide_true, decide_false, Option.map_some, *])

section
variable {T : Str → Option Fn}
theorem spelledI_ok {n : Nat} {m : Mem} {X K : Int} (hT : T "_law_spelled" = some F_law_spelled) (h0 : 0 ≤ X) (k0 : 0 ≤ K) (hk : K ≤ 8) : Ok (callN T (n + 1) "_law_spelled" [.d (.int X), .d (.int K)] m) (splQ m X.toNat K.toNat) := by
  have q := spelled_ok (n := n) (m := m) (x := X.toNat) (k := K.toNat) hT (by omega)
  rw [Int.toNat_of_nonneg h0, Int.toNat_of_nonneg k0] at q
  exact q
/-- what a new name is to keep -/
structure NewN (xs : List Str) (y : Str) : Prop where
  nm : Nm y
  new : y ∉ xs
  now : y ∉ wrds
def nameQ (c : Int) (m : Mem) (kf : Nat) (xs : List Str) (v : Vl) (m' : Mem) : Prop := ∃ y, v = .d (.str y) ∧ NewN xs y ∧ Fd (c + 5) m' kf ∧ Frm [kf] m m'
theorem name_w {n : Nat} {m : Mem} {kf : Nat} {tv : Vl} {xs : List Str} {num0 l0 : Nat} {X0 K0 : Int} {y0 : Str} {w3 w7 w8 : Option Vl} {Q : Fl → Mem → Prop} (hS : T "_law_spelled" = some F_law_spelled) (ht : rd m tv = some (.list (xs.map .str))) (hz : xs.length ≤ 1000)
    (hX : X0 = (num0 : Int)) (hK : K0 = (l0 : Int)) (h1 : 1 ≤ l0) (h8 : l0 ≤ 8) (hy : Nm y0) (hQ : ∀ y, NewN xs y → Q (.rt (.d (.str y))) m) :
    Ok (evB (callN T (n + 1)) (F_law_name.body.tl 10) [some (.r kf), some tv, some (.d (.list (wrds.map .str))), w3, some (.d (.int K0)), some (.d (.int X0)), some (.d (.str y0)), w7, w8] m) Q := by
  show Ok (evB (callN T (n + 1)) (.cons (.whl 1000000000 _ _) (.cons (.ret (.var 6)) .nil)) _ m) Q
  refine xB (x_whl ?_)
  generalize hB : xs ++ wrds = B
  have hBl : B.length ≤ 1013 := by rw [← hB, List.length_append]; show xs.length + 13 ≤ 1013; omega
  refine whlL_ok (fun k r m1 => m1 = m ∧ ∃ (num l : Nat) (X K : Int) (y : Str) (B' : List Str), r = [some (.r kf), some tv, some (.d (.list (wrds.map .str))), w3, some (.d (.int K)), some (.d (.int X)), some (.d (.str y)), w7, w8] ∧ X = (num : Int) ∧ K = (l : Int) ∧ num0 ≤ num ∧ 1 ≤ l ∧ l ≤ 8 ∧ Nm y ∧
    (∀ s : Nat, num ≤ s → s < num0 + 208827064576 → stL (spell s 8) ∈ B → stL (spell s 8) ∈ B') ∧ num + k < num0 + 208827064576 ∧ ((y = stL (spell num l) ∧ k = 8 * B'.length + (8 - l)) ∨ k = 8 * B'.length + 8)) ?_ (k := 8 * B.length + 8)
    ⟨rfl, num0, l0, X0, K0, y0, B, rfl, hX, hK, Nat.le_refl _, h1, h8, hy, fun s _ _ h => h, by omega, .inr rfl⟩ (by omega)
  clear hX hK h1 h8 hy
  rintro k r m1 ⟨rfl, num, l, X, K, y, B', rfl, hX, hK, hn, h1, h8, hy, hb, hu, hk⟩
  have cnd : Ok (evT (callN T (n + 1)) (.or (.cons (.cmp .inn (.var 6) (.var 1)) (.cons (.cmp .inn (.var 6) (.var 2)) .nil))) [some (.r kf), some tv, some (.d (.list (wrds.map .str))), w3, some (.d (.int K)), some (.d (.int X)), some (.d (.str y)), w7, w8] m1) (fun g m2 => m2 = m1 ∧ g = decide (y ∈ B)) := by
    rw [evT_eq]
    clear hX hK hn h1 h8 hy hb hu hk hQ
    trivial
    by_cases hx : y ∈ xs
    · simp only [hx, decide_true, Ok_ok, asB_b, ← hB, List.mem_append, true_or, and_self]
    · simp only [hx, decide_false, Ok_ok, asB_b, Ok_bind, ← hB, List.mem_append, false_or, in_strs, opB_some, and_self, rd2_d, evE_cmp, evE_var, List.getElem?_cons_succ, List.getElem?_cons_zero, evOr_one]
  refine cnd.mono ?_
  rintro g m2 ⟨rfl, rfl⟩
  by_cases hg : y ∈ B
  · rw [decide_eq_true hg]
    show Ok (evB (callN T (n + 1)) (.cons _ _) _ m2) _
    refine xB (x_asg ?_)
    clear cnd
    have e1 : K % 8 + 1 = ((l % 8 + 1 : Nat) : Int) := by omega
    trivial
    refine xB (x_asg ?_)
    trivial
    refine xB (x_asg ?_)
    trivial
    refine (spelledI_ok hS (by omega) (by omega) (by omega)).mono ?_
    rintro v m3 ⟨rfl, rfl⟩
    refine x_nil ?_
    have f1 : ((num : Int) + 1).toNat = num + 1 := by omega
    have f2 : ((l : Int) % 8 + 1).toNat = l % 8 + 1 := by omega
    rw [f1, f2]
    have l8 : 1 ≤ l % 8 + 1 ∧ l % 8 + 1 ≤ 8 := by omega
    have go : ∀ (k' : Nat) (B'' : List Str), k' < k → (∀ s : Nat, num + 1 ≤ s → s < num0 + 208827064576 → stL (spell s 8) ∈ B → stL (spell s 8) ∈ B'') → k' = 8 * B''.length + (8 - (l % 8 + 1)) → ∃ k', k' < k ∧ m3 = m3 ∧ ∃ (num' l' : Nat) (X' K' : Int) (y' : Str) (B' : List Str),
        [some (Vl.r kf), some tv, some (Vl.d (.list (wrds.map .str))), w3, some (.d (.int ((l : Int) % 8 + 1))), some (.d (.int ((num : Int) + 1))), some (.d (.str (stL (spell (num + 1) (l % 8 + 1))))), w7, w8] = [some (.r kf), some tv, some (.d (.list (wrds.map .str))), w3, some (.d (.int K')), some (.d (.int X')), some (.d (.str y')), w7, w8] ∧ X' = (num' : Int) ∧ K' = (l' : Int) ∧ num0 ≤ num' ∧ 1 ≤ l' ∧ l' ≤ 8 ∧ Nm y' ∧
        (∀ s : Nat, num' ≤ s → s < num0 + 208827064576 → stL (spell s 8) ∈ B → stL (spell s 8) ∈ B') ∧ num' + k' < num0 + 208827064576 ∧ ((y' = stL (spell num' l') ∧ k' = 8 * B'.length + (8 - l')) ∨ k' = 8 * B'.length + 8) := by
      intro k' B'' hk' hb' e
      exact ⟨k', hk', rfl, num + 1, l % 8 + 1, (num : Int) + 1, (l : Int) % 8 + 1, _, B'', rfl, by omega, by omega, by omega, l8.1, l8.2, nm_spell l8.1 l8.2, hb', by omega, .inl ⟨rfl, e⟩⟩
    rcases hk with ⟨hy', hk⟩ | hk
    · by_cases hl : l = 8
      · subst hl
        have hm : y ∈ B' := by rw [hy']; exact hb num (Nat.le_refl _) (by omega) (by rw [← hy']; exact hg)
        have hlt : (B'.filter fun z => decide (z ≠ y)).length < B'.length := List.length_filter_lt_length_iff_exists.mpr ⟨y, hm, by simp⟩
        refine go _ (B'.filter fun z => decide (z ≠ y)) (by omega) (fun s h1 h2 h3 => ?_) rfl
        rw [List.mem_filter]
        refine ⟨hb s (by omega) h2 h3, decide_eq_true fun e => ?_⟩
        rw [hy'] at e
        have := spell_inj 8 _ _ (stL_inj e)
        have p8 : 26 ^ 8 = 208827064576 := rfl
        rw [p8] at this
        omega
      · exact go _ B' (by omega) (fun s h1 h2 h3 => hb s (by omega) h2 h3) rfl
    · exact go _ B' (by omega) (fun s h1 h2 h3 => hb s (by omega) h2 h3) rfl
  · rw [decide_eq_false hg]
    refine xB (x_ret ?_)
    trivial
    refine hQ y ⟨hy, fun h => hg (by rw [← hB]; exact List.mem_append_left _ h), fun h => hg (by rw [← hB]; exact List.mem_append_right _ h)⟩
end
end Mp
-- Ev5
set_option Elab.async false
set_option linter.all false
set_option maxRecDepth 100000
set_option maxHeartbeats 2000000
namespace Mp
open PySem L2
theorem cut_take {l : List Nat} {j : Nat} : cutS (stL l) none (some (j : Int)) = stL (l.take j) := by
  unfold cutS
  rw [HT.sIx_nat, HT.sIx_none]
  have e1 : (stL l).cps.toList = l := by simp [stL]
  rw [e1, stL_len]
  show stL _ = _
  rw [List.drop_zero, Nat.sub_zero, ← List.take_take, List.take_length]
theorem cut_drop {l : List Nat} {j : Nat} : cutS (stL l) (some (j : Int)) none = stL (l.drop j) := by
  unfold cutS
  rw [HT.sIx_nat, HT.sIx_none]
  have e1 : (stL l).cps.toList = l := by simp [stL]
  rw [e1, stL_len]
  show stL _ = _
  by_cases h : j ≤ l.length
  · rw [Nat.min_eq_left h, List.take_of_length_le (by simp)]
  · rw [Nat.min_eq_right (by omega), List.drop_length, List.drop_eq_nil_of_le (by omega)]; simp
theorem small {n : Nat} (h : n ≤ 1000000) : n ≤ sizeLine := by have : sizeLine = 16777216 := rfl; omega
theorem idx_st0 {c : Nat} {l : List Nat} (h : (c :: l).length ≤ 1000000) : idxop (.str (stL (c :: l))) (.int 0) = some (.str (stL [c])) := by
  show (if (stL (c :: l)).length ≤ sizeLine then (atI (stL (c :: l)).cps.toList 0).map fun c => PyData.str ⟨#[c]⟩ else none) = _
  rw [if_pos (by rw [stL_len]; exact small h)]
  have e1 : (stL (c :: l)).cps.toList = c :: l := by simp [stL]
  rw [e1, atI_0]
  rfl
theorem low_ok {x : Str} (h : Low x) : PyData.strOk x = true := by
  unfold PyData.strOk
  rw [Array.all_eq_true']
  intro c hc
  have := h c (by simpa using hc)
  exact decide_eq_true (by omega)
theorem shp_strs : ∀ {xs : List Str}, (∀ x ∈ xs, Low x) → PyData.canLayAll0 (xs.map .str) = true ∧ PyData.depthAll (xs.map .str) = 0
  | [], _ => ⟨rfl, rfl⟩
  | x :: xs, h => by
    obtain ⟨a, b⟩ := shp_strs (xs := xs) fun y hy => h y (List.mem_cons_of_mem _ hy)
    rw [List.map_cons, PyData.canLayAll0, PyData.depthAll, a, b, PyData.canLay0, low_ok (h x List.mem_cons_self)]
    exact ⟨rfl, rfl⟩
theorem Shp.strs {xs : List Str} (h : ∀ x ∈ xs, Low x) : Shp (xs.map .str) := ⟨(shp_strs h).1, by rw [(shp_strs h).2]; exact Nat.zero_le _⟩
theorem Nm.ex {x : Str} (h : Nm x) : ∃ c l, x = stL (c :: l) ∧ l.length ≤ 7 ∧ ∀ d ∈ c :: l, 97 ≤ d ∧ d ≤ 122 := by
  obtain ⟨h1, h2, h3⟩ := h
  rw [stL_of x] at h1 h2 h3 ⊢
  generalize x.cps.toList = l at h1 h2 h3
  rw [stL_len] at h2 h3
  cases l with
  | nil => simp at h2
  | cons c l => exact ⟨c, l, rfl, by simpa using h3, fun d hd => h1 d (by simpa [stL] using hd)⟩
theorem Nm.of {l : List Nat} (h : ∀ d ∈ l, 97 ≤ d ∧ d ≤ 122) (h1 : 1 ≤ l.length) (h2 : l.length ≤ 8) : Nm (stL l) := ⟨.stL h, by rw [stL_len]; exact ⟨h1, h2⟩⟩
def nmB (x : Str) : Bool := (x.cps.toList.all fun c => decide (97 ≤ c) && decide (c ≤ 122)) && decide (1 ≤ x.length) && decide (x.length ≤ 8)
theorem nmB_of {x : Str} (h : nmB x = true) : Nm x := by
  simp only [nmB, Bool.and_eq_true, List.all_eq_true, decide_eq_true_eq] at h
  exact ⟨h.1.1, h.1.2, h.2⟩
local macro_rules
  | `(tactic| trivial) => `(tactic| simp only [evE_var, evE_cst, evE_bin, evE_neg, evE_cmp, evE_and, evE_or, evE_not, evE_ite, evE_tup, evE_lst, evE_dic, evE_idx, evE_slf, evE_slt, evE_sl2, evE_call, evE_isi, evE_blt, evE_mth, evL_nil, evL_cons, evAnd_one, evAnd_cons, evOr_one, evOr_cons, evS_sti, evS_app, evS_ext, evS_unp,
    Ok_bind, Ok_ok, bind_ok, Ct_non, Ct_bl, Ct_int, Ct_str, List.getElem?_cons_zero, List.getElem?_cons_succ, List.set_cons_zero, List.set_cons_succ, rd2, rd_d, rd2_d, opt_some, opB_some, asB_b, fz_d, fzL_nil, fzL_cons, mkl_f, mkl_t, outM_val, outM_lst, outM_dct, b_add, b_sub, b_mod, b_fdiv, b_mul_l, b_mul_r, c_lt, c_le, c_gt, c_ge, c_eqi, c_eqs, c_nes, Int.reduceLT, Int.reduceLE, bl_lenl, bl_lent, bl_lens, bl_tupl, bl_tupt, bl_lstl, bl_lstt, bl_stri, bl_strs, bl_intb, i_list, i_tup, atI_0, atI_1, atI_2, atI_3, sl_list, sl_tup, sl_str, isiop, negop, in_strs, nin_strs, kOf, and_self, true_and, and_true, ite_true, ite_false, if_true, if_false, Bool.true_or, Bool.or_true, Bool.false_or, Bool.or_false, Bool.not_true, Bool.not_false, decide_true, decide_false, Option.map_some, *])

section
variable {T : Str → Option Fn}
theorem name_9 {n : Nat} {c : Int} {m : Mem} {kf : Nat} {tv : Vl} {xs : List Str} {way X K : Int} {y : Str} {w7 w8 : Option Vl} {Q : Fl → Mem → Prop} (hD : T "_law_draw" = some F_law_draw) (hS : T "_law_spelled" = some F_law_spelled) (hm : Fd c m kf) (hc : c + 1 ≤ 2 ^ 62)
    (ht : ∀ m', Frm [kf] m m' → rd m' tv = some (.list (xs.map .str))) (hx : ∀ x ∈ xs, Nm x) (hz : xs.length ≤ 1000) (hX : 0 ≤ X) (hK : 1 ≤ K) (hK8 : K ≤ 8) (hy : Nm y) (hQ : ∀ m' y, NewN xs y → Fd (c + 1) m' kf → Frm [kf] m m' → Q (.rt (.d (.str y))) m') :
    Ok (evB (callN T (n + 1)) (F_law_name.body.tl 9) [some (.r kf), some tv, some (.d (.list (wrds.map .str))), some (.d (.int way)), some (.d (.int K)), some (.d (.int X)), some (.d (.str y)), w7, w8] m) Q := by
  have fin : ∀ m' y w7 w8, Nm y → Fd (c + 1) m' kf → Frm [kf] m m' → Ok (evB (callN T (n + 1)) (F_law_name.body.tl 10) [some (.r kf), some tv, some (.d (.list (wrds.map .str))), some (.d (.int way)), some (.d (.int K)), some (.d (.int X)), some (.d (.str y)), w7, w8] m') Q := fun m' y w7 w8 hy hm' fr =>
    name_w hS (ht m' fr) hz (Int.toNat_of_nonneg hX).symm (Int.toNat_of_nonneg (by omega)).symm (by omega) (by omega) hy fun z hz => hQ m' z hz hm' fr
  have ht0 := ht m (Frm.refl _ _)
  show Ok (evB (callN T (n + 1)) (.cons (.ife _ _ _) _) _ m) Q
  refine xB (x_ife ?_)
  have hsh : Shp (xs.map .str) := .strs fun x h => (hx x h).1
  have hne := ne_nil hsh
  clear hQ
  trivial
  by_cases hw : way = 2
  · subst hw
    simp only [decide_true, Ok_ok, evAnd_one, evE_cmp, evE_var, evE_lst, evL_nil, fzL_nil, mkl_f, Ok_bind, List.getElem?_cons_succ, List.getElem?_cons_zero, rd2, rd_d, ht0, hne, opB_some, asB_b]
    refine ⟨_, rfl, fun h => ?_, fun h => x_nil (fin m y w7 w8 hy (hm.weak (by omega) hc) (.refl _ _))⟩
    have hl : 0 < xs.length := by
      cases xs with
      | nil => cases h
      | cons _ _ => simp
    refine xB (x_asg ?_)
    trivial
    refine (draw_ok hD hm (by simpa using hl) (by simp; omega) hc).mono ?_
    rintro v m1 ⟨i, rfl, i0, i1, hm1, fr1⟩
    have ht1 := ht m1 fr1
    obtain ⟨z, ez, hzm⟩ := atI_in (xs := xs.map PyData.str) i0 i1
    obtain ⟨w, hw2, rfl⟩ := List.mem_map.mp hzm
    obtain ⟨d, l, rfl, hl7, hlow⟩ := (hx w hw2).ex
    obtain ⟨c0, l0, rfl, hl70, hlow0⟩ := hy.ex
    simp only [rd2, rd_d, ht1, i_list, ez, opt_some, Ok_ok]
    have q1 : (stL (d :: l)).length ≤ sizeLine := small (by rw [stL_len]; simp; omega)
    have q2 : bltop .len (.str (stL (d :: l))) = some (.val (.int ((d :: l).length : Int))) := by rw [bl_lens q1, stL_len]
    have q3 : (0 : Int) < ((d :: l).length : Int) := by simp
    refine xB (x_asg ?_)
    obtain ⟨at', hat, hat2⟩ : ∃ j : Nat, X % ((d :: l).length : Int) = (j : Int) ∧ j < (d :: l).length := ⟨(X % ((d :: l).length : Int)).toNat, by rw [Int.toNat_of_nonneg (Int.emod_nonneg _ (by omega))], by have := Int.emod_nonneg X (b := ((d :: l).length : Int)) (by omega); have := Int.emod_lt_of_pos X q3; omega⟩
    simp only [evE_bin, evE_var, evE_blt, List.getElem?_cons_succ, List.getElem?_cons_zero, List.set_cons_succ, List.set_cons_zero, Ok_bind, Ok_ok, rd_d, q2, outM_val, rd2_d, b_mod q3, hat, opt_some]
    refine xB (x_asg ?_)
    have hd1 : ∀ e ∈ (d :: l).take at' ++ [c0] ++ (d :: l).drop (at' + 1), 97 ≤ e ∧ e ≤ 122 := by
      intro e he
      rcases List.mem_append.mp he with he | he
      · rcases List.mem_append.mp he with he | he
        · exact hlow e (List.mem_of_mem_take he)
        · exact hlow0 e (by simp at he; simp [he])
      · exact hlow e (List.mem_of_mem_drop he)
    have hlen : ((d :: l).take at' ++ [c0] ++ (d :: l).drop (at' + 1)).length = (d :: l).length := by
      simp only [List.length_append, List.length_take, List.length_drop, List.length_singleton]; omega
    have a1 : (stL ((d :: l).take at')).length + (stL [c0]).length ≤ sizeLine := small (by rw [stL_len, stL_len]; simp; omega)
    have a2 : (stL ((d :: l).take at' ++ [c0])).length + (stL ((d :: l).drop (at' + 1))).length ≤ sizeLine := small (by rw [stL_len, stL_len]; simp; omega)
    have e0 : ((at' : Int) + 1) = ((at' + 1 : Nat) : Int) := by omega
    have q0 := idx_st0 (c := c0) (l := l0) (by simp; omega)
    simp only [evE_bin, evE_var, evE_slt, evE_slf, evE_idx, evE_cst, Ct_int, List.getElem?_cons_succ, List.getElem?_cons_zero, List.set_cons_succ, List.set_cons_zero, Ok_bind, Ok_ok, rd_d, rd2_d, sl_str q1, cut_take, opt_some, q0, b_adds a1, stL_add, b_add, e0, cut_drop, b_adds a2]
    refine x_nil ?_
    exact fin m1 _ _ _ (.of hd1 (by rw [hlen]; simp) (by rw [hlen]; simp; omega)) hm1 fr1
  · simp only [hw, decide_false, Ok_ok]
    exact ⟨_, rfl, (fun h => by cases h), fun h => x_nil (fin m y w7 w8 hy (hm.weak (by omega) hc) (.refl _ _))⟩
theorem name_8 {n : Nat} {c : Int} {m : Mem} {kf : Nat} {tv : Vl} {xs : List Str} {way X K : Int} {y : Str} {w7 w8 : Option Vl} {Q : Fl → Mem → Prop} (hD : T "_law_draw" = some F_law_draw) (hS : T "_law_spelled" = some F_law_spelled) (hm : Fd c m kf) (hc : c + 2 ≤ 2 ^ 62)
    (ht : ∀ m', Frm [kf] m m' → rd m' tv = some (.list (xs.map .str))) (hx : ∀ x ∈ xs, Nm x) (hz : xs.length ≤ 1000) (hX : 0 ≤ X) (hK : 1 ≤ K) (hK8 : K ≤ 8) (hy : Nm y) (hQ : ∀ m' y, NewN xs y → Fd (c + 2) m' kf → Frm [kf] m m' → Q (.rt (.d (.str y))) m') :
    Ok (evB (callN T (n + 1)) (F_law_name.body.tl 8) [some (.r kf), some tv, some (.d (.list (wrds.map .str))), some (.d (.int way)), some (.d (.int K)), some (.d (.int X)), some (.d (.str y)), w7, w8] m) Q := by
  have ht0 := ht m (Frm.refl _ _)
  show Ok (evB (callN T (n + 1)) (.cons (.ife _ _ _) _) _ m) Q
  refine xB (x_ife ?_)
  have hsh : Shp (xs.map .str) := .strs fun x h => (hx x h).1
  have hne := ne_nil hsh
  have nine : Ok (evB (callN T (n + 1)) (F_law_name.body.tl 9) [some (.r kf), some tv, some (.d (.list (wrds.map .str))), some (.d (.int way)), some (.d (.int K)), some (.d (.int X)), some (.d (.str y)), w7, w8] m) Q :=
    name_9 hD hS hm (by omega) ht hx hz hX hK hK8 hy fun m' y a b fr => hQ m' y a (b.weak (by omega) hc) fr
  by_cases hw : way = 1
  · subst hw
    simp only [evE_and, evAnd_cons, evAnd_one, evE_cmp, evE_var, evE_cst, Ct_int, evE_lst, evL_nil, fzL_nil, mkl_f, Ok_bind, Ok_ok, List.getElem?_cons_succ, List.getElem?_cons_zero, rd2, rd_d, ht0, hne, opB_some, asB_b, c_eqi, decide_true]
    refine ⟨_, rfl, fun h => ?_, fun h => x_nil nine⟩
    have hl : 0 < xs.length := by
      cases xs with
      | nil => cases h
      | cons _ _ => simp
    refine xB (x_asg ?_)
    simp only [evE_slt, evE_bin, evE_idx, evE_call, evL_cons, evL_nil, evE_blt, evE_var, List.getElem?_cons_succ, List.getElem?_cons_zero, Ok_bind, Ok_ok, ht0, bl_lenl, outM_val, bind_ok]
    refine (draw_ok hD hm (by simpa using hl) (by simp; omega) (by omega)).mono ?_
    rintro v m1 ⟨i, rfl, i0, i1, hm1, fr1⟩
    have ht1 := ht m1 fr1
    obtain ⟨z, ez, hzm⟩ := atI_in (xs := xs.map PyData.str) i0 i1
    obtain ⟨w, hw2, rfl⟩ := List.mem_map.mp hzm
    obtain ⟨d, l, rfl, hl7, hlow⟩ := (hx w hw2).ex
    obtain ⟨c0, l0, rfl, hl70, hlow0⟩ := hy.ex
    have a1 : (stL (d :: l)).length + (stL (c0 :: l0)).length ≤ sizeLine := small (by rw [stL_len, stL_len]; simp; omega)
    have a2 : (stL (d :: l ++ c0 :: l0)).length ≤ sizeLine := small (by rw [stL_len]; simp; omega)
    obtain ⟨j, hj, hj8⟩ : ∃ j : Nat, 1 + X % 8 = ((j + 1 : Nat) : Int) ∧ j < 8 := ⟨(X % 8).toNat, by omega, by omega⟩
    simp only [rd2, rd_d, ht1, i_list, ez, opt_some, Ok_ok, b_adds a1, stL_add, evE_cst, Ct_int, rd2_d, b_mod (show (0 : Int) < 8 by decide), b_add, hj, sl_str a2, cut_take, Ok_bind, bind_ok, List.set_cons_succ, List.set_cons_zero]
    refine x_nil ?_
    refine name_9 (c := c + 1) hD hS hm1 (by omega) (fun m' fr => ht m' (fr1.trans fr)) hx hz hX hK hK8 ?_ (fun m' y a b fr => hQ m' y a (b.weak (by omega) hc) (fr1.trans fr))
    · refine .of (fun e he => ?_) ?_ ?_
      · have he := List.mem_of_mem_take he
        rcases List.mem_append.mp he with he | he
        · exact hlow e he
        · exact hlow0 e he
      · simp
      · simp only [List.length_take, List.length_append, List.length_cons]; omega
  · simp only [evE_and, evAnd_cons, evAnd_one, evE_cmp, evE_var, evE_cst, Ct_int, Ok_bind, Ok_ok, List.getElem?_cons_succ, List.getElem?_cons_zero, rd2, rd_d, opB_some, asB_b, c_eqi, hw, decide_false]
    exact ⟨_, rfl, (fun h => by cases h), fun h => x_nil nine⟩
def nm12 : List Str := ["a", "b", "c", "d", "x", "y", "z", "n", "v", "aa", "ab", "tmp"]
theorem nm12_ok : ∀ y ∈ nm12, Nm y := by
  have q : nm12.all nmB = true := by decide +kernel
  exact fun y hy => nmB_of (List.all_eq_true.mp q y hy)
theorem wrds_ok : ∀ y ∈ wrds, Nm y ∧ y.length ≤ 5 := by
  have q : (wrds.all fun y => nmB y && decide (y.length ≤ 5)) = true := by decide +kernel
  intro y hy
  have := List.all_eq_true.mp q y hy
  rw [Bool.and_eq_true, decide_eq_true_eq] at this
  exact ⟨nmB_of this.1, this.2⟩
theorem name_7 {n : Nat} {c : Int} {m : Mem} {kf : Nat} {tv : Vl} {xs : List Str} {way X K : Int} {y : Str} {w7 w8 : Option Vl} {Q : Fl → Mem → Prop} (hD : T "_law_draw" = some F_law_draw) (hS : T "_law_spelled" = some F_law_spelled) (hm : Fd c m kf) (hc : c + 3 ≤ 2 ^ 62)
    (ht : ∀ m', Frm [kf] m m' → rd m' tv = some (.list (xs.map .str))) (hx : ∀ x ∈ xs, Nm x) (hz : xs.length ≤ 1000) (hX : 0 ≤ X) (hK : 1 ≤ K) (hK8 : K ≤ 8) (hy : Nm y) (hQ : ∀ m' y, NewN xs y → Fd (c + 3) m' kf → Frm [kf] m m' → Q (.rt (.d (.str y))) m') :
    Ok (evB (callN T (n + 1)) (F_law_name.body.tl 7) [some (.r kf), some tv, some (.d (.list (wrds.map .str))), some (.d (.int way)), some (.d (.int K)), some (.d (.int X)), some (.d (.str y)), w7, w8] m) Q := by
  show Ok (evB (callN T (n + 1)) (.cons (.ife _ (.cons (.asg 6 (.idx (.lst false _) _)) .nil) _) _) _ m) Q
  refine xB (x_ife ?_)
  have eight : ∀ (c' : Int) m1 y, c' + 2 ≤ c + 3 → Nm y → Fd c' m1 kf → Frm [kf] m m1 → Ok (evB (callN T (n + 1)) (F_law_name.body.tl 8) [some (.r kf), some tv, some (.d (.list (wrds.map .str))), some (.d (.int way)), some (.d (.int K)), some (.d (.int X)), some (.d (.str y)), w7, w8] m1) Q := fun c' m1 y h hy hm1 fr1 =>
    name_8 hD hS hm1 (by omega) (fun m' fr => ht m' (fr1.trans fr)) hx hz hX hK hK8 hy fun m' y a b fr => hQ m' y a (b.weak (by omega) hc) (fr1.trans fr)
  simp only [evE_cmp, evE_var, evE_cst, Ct_int, Ok_bind, Ok_ok, List.getElem?_cons_succ, List.getElem?_cons_zero, rd2, rd_d, opB_some, c_eqi]
  refine ⟨_, rfl, fun h => ?_, fun h => x_nil (eight c m y (by omega) hy hm (.refl _ _))⟩
  refine xB (x_asg ?_)
  simp only [evE_idx, evE_lst, evE_call, evL_cons, evL_nil, evE_var, evE_cst, Ct_int, Ct_str, fzL_cons, fzL_nil, fz_d, mkl_f, Ok_bind, Ok_ok, List.getElem?_cons_succ, List.getElem?_cons_zero, bind_ok]
  refine (draw_ok hD hm (by decide) (by decide) (by omega)).mono ?_
  rintro v m1 ⟨i, rfl, i0, i1, hm1, fr1⟩
  obtain ⟨z, ez, hzm⟩ := atI_in (xs := nm12.map PyData.str) i0 i1
  obtain ⟨w, hw2, rfl⟩ := List.mem_map.mp hzm
  simp only [nm12, List.map_cons, List.map_nil] at ez
  simp only [rd2_d, i_list, ez, opt_some, Ok_ok]
  exact x_nil (eight (c + 1) m1 w (by omega) (nm12_ok w hw2) hm1 fr1)
theorem name_6 {n : Nat} {c : Int} {m : Mem} {kf : Nat} {tv : Vl} {xs : List Str} {way X K : Int} {y : Str} {w7 w8 : Option Vl} {Q : Fl → Mem → Prop} (hD : T "_law_draw" = some F_law_draw) (hS : T "_law_spelled" = some F_law_spelled) (hm : Fd c m kf) (hc : c + 4 ≤ 2 ^ 62)
    (ht : ∀ m', Frm [kf] m m' → rd m' tv = some (.list (xs.map .str))) (hx : ∀ x ∈ xs, Nm x) (hz : xs.length ≤ 1000) (hX : 0 ≤ X) (hK : 1 ≤ K) (hK8 : K ≤ 8) (hy : Nm y) (hQ : ∀ m' y, NewN xs y → Fd (c + 4) m' kf → Frm [kf] m m' → Q (.rt (.d (.str y))) m') :
    Ok (evB (callN T (n + 1)) (F_law_name.body.tl 6) [some (.r kf), some tv, some (.d (.list (wrds.map .str))), some (.d (.int way)), some (.d (.int K)), some (.d (.int X)), some (.d (.str y)), w7, w8] m) Q := by
  show Ok (evB (callN T (n + 1)) (.cons (.ife _ _ _) _) _ m) Q
  refine xB (x_ife ?_)
  have seven : ∀ (c' : Int) m1 y, c' + 3 ≤ c + 4 → Nm y → Fd c' m1 kf → Frm [kf] m m1 → Ok (evB (callN T (n + 1)) (F_law_name.body.tl 7) [some (.r kf), some tv, some (.d (.list (wrds.map .str))), some (.d (.int way)), some (.d (.int K)), some (.d (.int X)), some (.d (.str y)), w7, w8] m1) Q := fun c' m1 y h hy hm1 fr1 =>
    name_7 hD hS hm1 (by omega) (fun m' fr => ht m' (fr1.trans fr)) hx hz hX hK hK8 hy fun m' y a b fr => hQ m' y a (b.weak (by omega) hc) (fr1.trans fr)
  simp only [evE_cmp, evE_var, evE_cst, Ct_int, Ok_bind, Ok_ok, List.getElem?_cons_succ, List.getElem?_cons_zero, rd2, rd_d, opB_some, c_eqi]
  refine ⟨_, rfl, fun h => ?_, fun h => x_nil (seven c m y (by omega) hy hm (.refl _ _))⟩
  refine xB (x_asg ?_)
  simp only [evE_bin, evE_idx, evE_call, evL_cons, evL_nil, evE_var, evE_cst, Ct_int, Ok_bind, Ok_ok, List.getElem?_cons_succ, List.getElem?_cons_zero, bind_ok]
  refine (draw_ok hD hm (by decide) (by decide) (by omega)).mono ?_
  rintro v m1 ⟨i, rfl, i0, i1, hm1, fr1⟩
  obtain ⟨z, ez, hzm⟩ := atI_in (xs := wrds.map PyData.str) i0 i1
  obtain ⟨w, hw2, rfl⟩ := List.mem_map.mp hzm
  obtain ⟨hw3, hw5⟩ := wrds_ok w hw2
  obtain ⟨d, l, rfl, hl7, hlow⟩ := hw3.ex
  obtain ⟨c0, l0, rfl, hl70, hlow0⟩ := hy.ex
  rw [stL_len] at hw5
  have q0 := idx_st0 (c := c0) (l := l0) (by simp; omega)
  have a1 : (stL (d :: l)).length + (stL [c0]).length ≤ sizeLine := small (by rw [stL_len, stL_len]; simp; omega)
  simp only [rd2_d, i_list, ez, opt_some, Ok_ok, q0, b_adds a1, stL_add, List.set_cons_succ, List.set_cons_zero]
  refine x_nil (seven (c + 1) m1 _ (by omega) (.of (fun e he => ?_) ?_ ?_) hm1 fr1)
  · rcases List.mem_append.mp he with he | he
    · exact hlow e he
    · exact hlow0 e (by simp at he; simp [he])
  · simp
  · simp only [List.length_append, List.length_cons, List.length_nil] at hw5 ⊢; omega
theorem name_ok {n : Nat} {c : Int} {m : Mem} {kf : Nat} {tv : Vl} {xs : List Str} (hD : T "_law_draw" = some F_law_draw) (hS : T "_law_spelled" = some F_law_spelled) (hT : T "_law_name" = some F_law_name) (hm : Fd c m kf) (hc : c + 8 ≤ 2 ^ 62)
    (ht : ∀ m', Frm [kf] m m' → rd m' tv = some (.list (xs.map .str))) (hx : ∀ x ∈ xs, Nm x) (hz : xs.length ≤ 1000) : Ok (callN T (n + 2) "_law_name" [.r kf, tv] m) (nameQ (c + 3) m kf xs) := by
  refine call_ok hT rfl ?_
  show Ok (evB (callN T (n + 1)) F_law_name.body [some (.r kf), some tv, none, none, none, none, none, none, none] m) fun fl m1 => Ok (fin false m.length fl m1) (nameQ (c + 3) m kf xs)
  have o1 : okI 456976 = true := rfl
  refine xB (x_asg ?_)
  simp only [evE_lst, evL_cons, evL_nil, evE_cst, Ct_str, fzL_cons, fzL_nil, fz_d, mkl_f, Ok_bind, Ok_ok, bind_ok, List.set_cons_succ, List.set_cons_zero]
  refine xB (x_asg ?_)
  simp only [evE_bin, evE_var, evE_lst, evL_cons, evL_nil, evE_cst, Ct_str, fzL_cons, fzL_nil, fz_d, mkl_f, Ok_bind, Ok_ok, bind_ok, List.set_cons_succ, List.set_cons_zero, List.getElem?_cons_succ, List.getElem?_cons_zero, rd2_d]
  rw [b_addl (small (by decide)), opt_some, Ok_ok]
  show Ok (evB (callN T (n + 1)) (F_law_name.body.tl 2) [some (.r kf), some tv, some (.d (.list (wrds.map .str))), none, none, none, none, none, none] m) fun fl m1 => Ok (fin false m.length fl m1) (nameQ (c + 3) m kf xs)
  generalize hwd : PyData.list (wrds.map .str) = WD
  refine xB (x_asg ?_)
  simp only [evE_call, evL_cons, evL_nil, evE_var, evE_cst, Ct_int, Ok_bind, Ok_ok, List.getElem?_cons_succ, List.getElem?_cons_zero, bind_ok]
  refine (draw_ok hD hm (by decide) (by decide) (by omega)).mono ?_
  rintro v m1 ⟨way, rfl, way0, way1, hm1, fr1⟩
  refine xB (x_asg ?_)
  simp only [evE_bin, evE_call, evL_cons, evL_nil, evE_var, evE_cst, Ct_int, Ok_bind, Ok_ok, List.getElem?_cons_succ, List.getElem?_cons_zero, bind_ok, List.set_cons_succ, List.set_cons_zero]
  refine (draw_ok hD hm1 (by decide) (by decide) (by omega)).mono ?_
  rintro v m2 ⟨k, rfl, k0, k1, hm2, fr2⟩
  simp only [rd2_d, b_add, opt_some, Ok_ok]
  refine xB (x_asg ?_)
  simp only [evE_bin, evE_call, evL_cons, evL_nil, evE_var, evE_cst, Ct_int, Ok_bind, Ok_ok, List.getElem?_cons_succ, List.getElem?_cons_zero, bind_ok, List.set_cons_succ, List.set_cons_zero]
  refine (draw_ok hD hm2 (by decide) (by decide) (by omega)).mono ?_
  rintro v m3 ⟨a, rfl, a0, a1, hm3, fr3⟩
  simp only [rd2_d, b_mul_r o1, opt_some, Ok_ok]
  refine (draw_ok hD hm3 (by decide) (by decide) (by omega)).mono ?_
  rintro v m4 ⟨b, rfl, b0, b1, hm4, fr4⟩
  simp only [rd2_d, b_add, opt_some, Ok_ok]
  refine xB (x_asg ?_)
  simp only [evE_call, evL_cons, evL_nil, evE_var, Ok_bind, Ok_ok, List.getElem?_cons_succ, List.getElem?_cons_zero, bind_ok, List.set_cons_succ, List.set_cons_zero]
  refine (spelledI_ok hS (by omega) (by omega) (by omega)).mono ?_
  rintro v m5 ⟨rfl, rfl⟩
  have fr := fr1.trans (fr2.trans (fr3.trans fr4))
  subst hwd
  refine name_6 (c := c + 1 + 1 + 1 + 1) (xs := xs) hD hS hm4 (by omega) (fun m' f => ht m' (fr.trans f)) hx hz (by omega) (by omega) (by omega) (nm_spell (by omega) (by omega)) fun m' y hy hm' f => ?_
  simp only [fin_d, Ok_ok]
  have fr' := fr.trans f
  rw [take_same fr'.1]
  exact ⟨y, rfl, hy, hm'.weak (by omega) (by omega), fr'⟩
end
end Mp
-- Ev6
set_option Elab.async false
set_option linter.all false
set_option maxRecDepth 100000
set_option maxHeartbeats 2000000
namespace Mp
open PySem L2
/-! ### more cells than at the entry -/
def Ext (S : List Nat) (m m1 : Mem) : Prop := m.length ≤ m1.length ∧ ∀ j, j < m.length → j ∉ S → m1[j]? = m[j]?
section
variable {S S' : List Nat} {m m1 m2 : Mem} {k : Nat} {c : Cell}
theorem Ext.refl (S : List Nat) (m : Mem) : Ext S m m := ⟨Nat.le_refl _, fun _ _ _ => rfl⟩
theorem Ext.al (S : List Nat) (m : Mem) (c : Cell) : Ext S m (m ++ [c]) := ⟨by simp, fun j h _ => List.getElem?_append_left h⟩
theorem Ext.frm (h : Ext S m m1) (f : Frm S' m1 m2) (hs : ∀ j ∈ S', j < m.length → j ∈ S) : Ext S m m2 := ⟨by rw [f.1]; exact h.1, fun j hj hn => (f.2 j fun q => hn (hs j q hj)).trans (h.2 j hj hn)⟩
theorem Ext.put (h : Ext S m m1) (hl : m2.length = m1.length) (hf : ∀ j, j ≠ k → m2[j]? = m1[j]?) (hk : m.length ≤ k ∨ k ∈ S) : Ext S m m2 := ⟨by rw [hl]; exact h.1, fun j hj hn => (hf j (by rintro rfl; rcases hk with q | q; omega; exact hn q)).trans (h.2 j hj hn)⟩
theorem Ext.set (h : Ext S m m1) (hk : m.length ≤ k ∨ k ∈ S) : Ext S m (m1.set k c) := h.put (List.length_set ..) (fun j hj => List.getElem?_set_ne (Ne.symm hj)) hk
theorem Ext.app (h : Ext S m m1) : Ext S m (m1 ++ [c]) := ⟨by rw [List.length_append]; exact Nat.le_trans h.1 (Nat.le_add_right _ _), fun j hj hn => (List.getElem?_append_left (Nat.lt_of_lt_of_le hj h.1)).trans (h.2 j hj hn)⟩
theorem Ext.done (h : Ext S m m1) : Frm S m (m1.take m.length) := by
  refine ⟨by rw [List.length_take]; exact Nat.min_eq_left h.1, fun j hn => ?_⟩
  by_cases hj : j < m.length
  · rw [List.getElem?_take_of_lt hj]; exact h.2 j hj hn
  · rw [List.getElem?_eq_none (by rw [List.length_take]; omega), List.getElem?_eq_none (by omega)]
theorem at_take (hk : k < m.length) : (m1.take m.length)[k]? = m1[k]? := List.getElem?_take_of_lt hk
theorem Fd.take {c : Int} {kf : Nat} (h : Fd c m1 kf) (hk : kf < m.length) : Fd c (m1.take m.length) kf := by
  obtain ⟨cs, a, l, h1, h2⟩ := h
  exact ⟨cs, a, l, by rw [at_take hk]; exact h1, h2⟩
theorem Fd.lt {c : Int} {kf : Nat} (h : Fd c m kf) : kf < m.length := by
  obtain ⟨cs, a, l, h1, h2⟩ := h
  exact lt_of_at h1
theorem Fd.of {c : Int} {kf : Nat} (h : Fd c m kf) (e : m1[kf]? = m[kf]?) : Fd c m1 kf := by
  obtain ⟨cs, a, l, h1, h2⟩ := h
  exact ⟨cs, a, l, e.trans h1, h2⟩
theorem at_last {m : Mem} {c : Cell} : (m ++ [c])[m.length]? = some c := by simp
theorem rd_lst {xs : List PyData} (h : m[k]? = some (.lst xs)) : rd m (.r k) = some (.list xs) := by simp [rd, h]
theorem fz_lst {xs : List PyData} (h : m[k]? = some (.lst xs)) : fz (.r k) m = .ok (.list xs) (m.set k (.frz (.list xs))) := by simp [fz, h]
theorem fz_dct {xs : List (Key × PyData)} (h : m[k]? = some (.dct xs)) : fz (.r k) m = .ok (.dict (reK xs)) (m.set k (.frz (.dict (reK xs)))) := by simp [fz, h]
end
local macro_rules
  | `(tactic| trivial) => `(tactic| simp only [evE_var, evE_cst, evE_bin, evE_neg, evE_cmp, evE_and, evE_or, evE_not, evE_ite, evE_tup, evE_lst, evE_dic, evE_idx, evE_slf, evE_slt, evE_sl2, evE_call, evE_isi, evE_blt, evE_mth, evL_nil, evL_cons, evAnd_one, evAnd_cons, evOr_one, evOr_cons, evS_sti, evS_app, evS_ext, evS_unp,
    Ok_bind, Ok_ok, bind_ok, Ct_non, Ct_bl, Ct_int, Ct_str, List.getElem?_cons_zero, List.getElem?_cons_succ, List.set_cons_zero, List.set_cons_succ, rd2, rd_d, rd2_d, opt_some, opB_some, asB_b, fz_d, fzL_nil, fzL_cons, mkl_f, mkl_t, outM_val, outM_lst, outM_dct, b_add, b_sub, b_mod, b_fdiv, b_mul_l, b_mul_r, c_lt, c_le, c_gt, c_ge, c_eqi, c_eqs, c_nes, Int.reduceLT, Int.reduceLE, bl_lenl, bl_lent, bl_lens, bl_tupl, bl_tupt, bl_lstl, bl_lstt, bl_stri, bl_strs, bl_intb, i_list, i_tup, atI_0, atI_1, atI_2, atI_3, sl_list, sl_tup, sl_str, isiop, negop, in_strs, nin_strs, kOf, and_self, true_and, and_true, ite_true, ite_false, if_true, if_false, Bool.true_or, Bool.or_true, Bool.false_or, Bool.or_false, Bool.not_true, Bool.not_false, decide_true, decide_false, Option.map_some, *])

section
variable {T : Str → Option Fn}
def namesQ (c : Int) (m : Mem) (kf : Nat) (many : Nat) (v : Vl) (m' : Mem) : Prop := ∃ ys : List Str, v = .d (.list (ys.map .str)) ∧ ys.length = many ∧ (∀ y ∈ ys, Nm y ∧ y ∉ wrds) ∧ ys.Nodup ∧ Fd (c + 8 * many) m' kf ∧ Frm [kf] m m'
theorem names_ok {n : Nat} {c : Int} {m : Mem} {kf : Nat} {many : Int} (hD : T "_law_draw" = some F_law_draw) (hS : T "_law_spelled" = some F_law_spelled) (hN : T "_law_name" = some F_law_name) (hT : T "_law_names" = some F_law_names) (hm : Fd c m kf) (h0 : 0 ≤ many) (h1 : many ≤ 1000) (hc : c + 8 * many ≤ 2 ^ 62) :
    Ok (callN T (n + 3) "_law_names" [.r kf, .d (.int many)] m) (namesQ c m kf many.toNat) := by
  refine call_ok hT rfl ?_
  show Ok (evB (callN T (n + 2)) F_law_names.body [some (.r kf), some (.d (.int many)), none, none] m) fun fl m1 => Ok (fin false m.length fl m1) (namesQ c m kf many.toNat)
  refine xB (x_asg ?_)
  simp only [evE_lst, evL_nil, fzL_nil, mkl_t, Ok_bind, Ok_ok, bind_ok, List.set_cons_succ, List.set_cons_zero]
  refine xB (x_rng ?_)
  simp only [evE_var, List.getElem?_cons_succ, List.getElem?_cons_zero, Ok_ok]
  refine ⟨many, rfl, h0, by omega, ?_⟩
  have hkf := hm.lt
  refine forL_ok (fun i r m1 => i ≤ many.toNat ∧ ∃ (ys : List Str) (w : Option Vl), r = [some (.r kf), some (.d (.int many)), some (.r m.length), w] ∧ m1.length = m.length + 1 ∧ m1[m.length]? = some (.lst (ys.map .str)) ∧ ys.length = i ∧ (∀ y ∈ ys, Nm y ∧ y ∉ wrds) ∧ ys.Nodup ∧ Fd (c + 8 * i) m1 kf ∧ Ext [kf] m m1) (n := 0)
    ⟨Nat.zero_le _, [], none, rfl, by simp, at_last, rfl, (fun _ h => by cases h), List.nodup_nil, (hm.of (List.getElem?_append_left hkf)).weak (by omega) (by omega), .al _ _ _⟩ ?_ ?_
  · rintro i x r m1 ⟨j, hj, hij⟩ ⟨hi, ys, w, rfl, hl1, hat, hyl, hys, hnd, hf1, hx1⟩
    have hij2 : i = j := by omega
    subst hij2
    have hjm := (rngL_at hj).2
    have hj' : i < many.toNat := by omega
    show Ok (evB (callN T (n + 2)) (.cons (.app (.var 2) _) .nil) [some (.r kf), some (.d (.int many)), some (.r m.length), some (.d x)] m1) _
    refine xB (x_app (k := m.length) rfl hat ?_)
    simp only [evE_call, evL_cons, evL_nil, evE_var, Ok_bind, Ok_ok, List.getElem?_cons_succ, List.getElem?_cons_zero, bind_ok]
    refine (name_ok (c := c + 8 * i) (xs := ys) hD hS hN hf1 (by omega) (fun m' f => rd_lst ((f.2 _ (by simp; omega)).trans hat)) (fun y hy => (hys y hy).1) (by omega)).mono ?_
    rintro v m2 ⟨y, rfl, hy, hf2, fr2⟩
    refine ⟨_, _, rfl, (fr2.2 _ (by simp; omega)).trans hat, by have : sizeLine = 16777216 := rfl; rw [List.length_map]; omega, fun m3 hat3 hl3 hf3 => ?_⟩
    refine x_nil ⟨by omega, ys ++ [y], some (.d x), rfl, by rw [hl3, fr2.1, hl1], by rw [hat3, List.map_append]; rfl, by simp; omega, ?_, ?_, ?_, ?_⟩
    · intro z hz
      rcases List.mem_append.mp hz with hz | hz
      · exact hys z hz
      · have e : z = y := by simpa using hz
        rw [e]; exact ⟨hy.nm, hy.now⟩
    · rw [List.nodup_append]
      refine ⟨hnd, by simp, fun a ha b hb => ?_⟩
      have e : b = y := by simpa using hb
      rw [e]
      rintro rfl
      exact hy.new ha
    · exact (hf2.of (hf3 kf (by omega))).weak (by omega) (by omega)
    · exact (hx1.frm fr2 fun j h _ => h).put hl3 hf3 (.inl (Nat.le_refl _))
  · rintro r m1 ⟨hi, ys, w, rfl, hl1, hat, hyl, hys, hnd, hf1, hx1⟩
    rw [rngL_len] at hyl hf1
    refine xB (x_ret ?_)
    simp only [evE_var, List.getElem?_cons_succ, List.getElem?_cons_zero, Ok_ok, fin_f, fz_lst hat, bind_ok, Ok_bind]
    refine ⟨ys, rfl, by omega, hys, hnd, ?_, ?_⟩
    · refine Fd.take ((hf1.of (List.getElem?_set_ne (by omega))).weak (by omega) (by omega)) hkf
    · exact (hx1.set (.inl (Nat.le_refl _))).done
end
/-! ### comprehensions -/
section
variable {F : Fs} {r : En} {m : Mem} {Q : Vl → Mem → Prop}
theorem lc_end {fl : Bool} {m1 : Mem} {ys : List PyData} (h : Q (if fl then .r m1.length else .d (.list ys)) (if fl then m1 ++ [.lst ys] else m1)) : Ok (lcE fl m1.length (m1 ++ [.lst ys])) Q := by
  unfold lcE
  rw [at_last]
  cases fl with
  | true => exact .of h
  | false =>
    refine .of ?_
    rw [List.take_left']
    · exact h
    · rfl
/-- a comprehension that leaves the cells as they are -/
theorem lcL_pure {f : PyData → Mem → R (Option PyData)} (g : PyData → Option PyData) {m1 : Mem} {xs : List PyData} {Q : Unit → Mem → Prop}
    (hb : ∀ x ∈ xs, ∀ acc, f x (m1 ++ [.lst acc]) = .ok (g x) (m1 ++ [.lst acc])) (hQ : Q () (m1 ++ [.lst (xs.filterMap g)])) : Ok (lcL m1.length f 0 xs (m1 ++ [.lst []])) Q := by
  have gen : ∀ (xs : List PyData) (n : Nat) (acc : List PyData), acc.length ≤ n → (∀ x ∈ xs, ∀ acc, f x (m1 ++ [.lst acc]) = .ok (g x) (m1 ++ [.lst acc])) → lcL m1.length f n xs (m1 ++ [.lst acc]) = .ok () (m1 ++ [.lst (acc ++ xs.filterMap g)]) := by
    intro xs
    induction xs with
    | nil => intro n acc _ _; simp [lcL]
    | cons x xs ih =>
      intro n acc hn hb
      have h1 := hb x List.mem_cons_self acc
      have h2 := fun y hy => hb y (List.mem_cons_of_mem _ hy)
      unfold lcL
      rw [h1]
      cases e : g x with
      | none => rw [List.filterMap_cons_none e]; exact ih (n + 1) acc (by omega) h2
      | some y =>
        simp only [at_last, if_pos hn, List.set_append_right _ _ (Nat.le_refl _), Nat.sub_self, List.set_cons_zero]
        rw [ih (n + 1) (acc ++ [y]) (by simp; omega) h2, List.filterMap_cons_some e]
        simp
  rw [gen xs 0 [] (Nat.le_refl _) hb, List.nil_append]
  exact .of hQ
theorem x_lc {fl : Bool} {e : Ex} {tg : Tg} {it : Mp.It} (g : PyData → Option PyData) (h : Ok (evI F it r m) fun xs m1 => (∀ x ∈ xs, ∀ acc, ∃ r1, bindT (wipeE r tg.slots) tg x = some r1 ∧ Ok (evE F e r1 (m1 ++ [.lst acc])) fun v m2 => ∃ d, v = .d d ∧ g x = some d ∧ m2 = m1 ++ [.lst acc]) ∧ Q (if fl then .r m1.length else .d (.list (xs.filterMap g))) (if fl then m1 ++ [.lst (xs.filterMap g)] else m1)) :
    Ok (evE F (.lc fl e tg it) r m) Q := by
  show Ok ((evI F it r m).bind _) Q
  rw [Ok_bind]
  refine h.mono fun xs m1 ⟨hb, hq⟩ => ?_
  rw [Ok_bind]
  refine lcL_pure g (fun x hx acc => ?_) (lc_end hq)
  obtain ⟨r1, e1, ⟨v, m2, e2, d, rfl, e3, rfl⟩⟩ := hb x hx acc
  simp only [e1, e2, bind_ok, fz_d, e3]
theorem x_lci {fl : Bool} {e c : Ex} {tg : Tg} {it : Mp.It} (g : PyData → Option PyData) (h : Ok (evI F it r m) fun xs m1 => (∀ x ∈ xs, ∀ acc, ∃ r1, bindT (wipeE r tg.slots) tg x = some r1 ∧ Ok (evE F c r1 (m1 ++ [.lst acc])) fun v m2 => m2 = m1 ++ [.lst acc] ∧ ∃ b, v = .d (.bool b) ∧ (b = false → g x = none) ∧ (b = true → Ok (evE F e r1 (m1 ++ [.lst acc])) fun v m2 => ∃ d, v = .d d ∧ g x = some d ∧ m2 = m1 ++ [.lst acc])) ∧ Q (if fl then .r m1.length else .d (.list (xs.filterMap g))) (if fl then m1 ++ [.lst (xs.filterMap g)] else m1)) :
    Ok (evE F (.lci fl e tg it c) r m) Q := by
  show Ok ((evI F it r m).bind _) Q
  rw [Ok_bind]
  refine h.mono fun xs m1 ⟨hb, hq⟩ => ?_
  rw [Ok_bind]
  refine lcL_pure g (fun x hx acc => ?_) (lc_end hq)
  obtain ⟨r1, e1, ⟨v, m2, e2, rfl, b, rfl, f1, f2⟩⟩ := hb x hx acc
  simp only [e1, e2, bind_ok, asB_b]
  cases b with
  | false => simp only [f1 rfl]
  | true =>
    obtain ⟨v, m2, e2, d, rfl, e3, rfl⟩ := f2 rfl
    simp only [e2, bind_ok, fz_d, e3]
end
end Mp
-- Ev7
set_option Elab.async false
set_option linter.all false
set_option maxRecDepth 100000
set_option maxHeartbeats 2000000
namespace Mp
open PySem L2
/-! ### trees -/
inductive W where
  | take_
  | num_
  | name_
  | op_
  | pick_
  | let_
  | set_
  | say_
  | do_
  | again_
  | call_
  deriving DecidableEq
def W.s : W → Str
  | .take_ => "take"
  | .num_ => "num"
  | .name_ => "name"
  | .op_ => "op"
  | .pick_ => "pick"
  | .let_ => "let"
  | .set_ => "set"
  | .say_ => "say"
  | .do_ => "do"
  | .again_ => "again"
  | .call_ => "call"
theorem lit_take : Str.ofString "take" = W.s .take_ := nr rfl
theorem lit_num : Str.ofString "num" = W.s .num_ := nr rfl
theorem lit_name : Str.ofString "name" = W.s .name_ := nr rfl
theorem lit_op : Str.ofString "op" = W.s .op_ := nr rfl
theorem lit_pick : Str.ofString "pick" = W.s .pick_ := nr rfl
theorem lit_let : Str.ofString "let" = W.s .let_ := nr rfl
theorem lit_set : Str.ofString "set" = W.s .set_ := nr rfl
theorem lit_say : Str.ofString "say" = W.s .say_ := nr rfl
theorem lit_do : Str.ofString "do" = W.s .do_ := nr rfl
theorem lit_again : Str.ofString "again" = W.s .again_ := nr rfl
theorem lit_call : Str.ofString "call" = W.s .call_ := nr rfl
theorem W.s_inj : ∀ a b : W, decide (a.s = b.s) = decide (a = b) := by
  intro a b
  cases a <;> cases b <;> decide +kernel
theorem W.ok : ∀ a : W, PyData.strOk a.s = true ∧ a.s.length ≤ 5 := by
  intro a
  cases a <;> decide +kernel
def isT : PyData → Bool
  | .tuple _ => true
  | _ => false
def notD : PyData → Bool
  | .dict _ => false
  | _ => true
def sgs : List Str := ["+", "-", "*", "/", "<", "="]
def Nw (x : Str) : Prop := Nm x ∧ x ∉ wrds
inductive Form (cs : Str → Nat → Prop) : W → List PyData → Nat → Prop
  | take : Form cs .take_ [] 0
  | num (i : Int) : 0 ≤ i → i ≤ 999999999 → Form cs .num_ [.int i] 0
  | name (x : Str) : Nw x → Form cs .name_ [.str x] 0
  | op (x : Str) : x ∈ sgs → Form cs .op_ [.str x] 2
  | pick : Form cs .pick_ [] 3
  | let (x : Str) : Nw x → Form cs .let_ [.str x] 2
  | set (x : Str) : Nw x → Form cs .set_ [.str x] 1
  | say : Form cs .say_ [] 1
  | do (k : Nat) : 1 ≤ k → k ≤ 6 → Form cs .do_ [] k
  | again (i : Int) : 0 ≤ i → i ≤ 5 → Form cs .again_ [.int i] 1
  | call (x : Str) (k : Nat) : cs x k → Nw x → k ≤ 6 → Form cs .call_ [.str x] k
inductive Tr (cs : Str → Nat → Prop) : Nat → PyData → Prop
  | mk {w : W} {as ks : List PyData} {n : Nat} : Form cs w as ks.length → (∀ a ∈ ks, Tr cs n a) → Tr cs (n + 1) (.tuple (.str w.s :: (as ++ ks)))
mutual
def cnt : PyData → Nat
  | .tuple xs => 1 + cntL xs
  | _ => 0
def cntL : List PyData → Nat
  | [] => 0
  | x :: xs => cnt x + cntL xs
end
theorem cntL_app : ∀ (xs ys : List PyData), cntL (xs ++ ys) = cntL xs + cntL ys
  | [], ys => by simp [cntL]
  | x :: xs, ys => by rw [List.cons_append, cntL, cntL, cntL_app xs ys]; omega
theorem cntL_sum : ∀ (xs : List PyData), cntL xs = (xs.map cnt).sum
  | [] => rfl
  | x :: xs => by rw [cntL, List.map_cons, List.sum_cons, cntL_sum xs]
section
variable {cs : Str → Nat → Prop} {w : W} {as ks : List PyData} {k n : Nat} {e : PyData}
theorem Form.flat (h : Form cs w as k) : ∀ a ∈ as, isT a = false ∧ notD a = true ∧ cnt a = 0 := by
  cases h <;> intro a ha <;> simp only [List.mem_cons, List.not_mem_nil, or_false] at ha <;> first | (subst ha; exact ⟨rfl, rfl, by rw [cnt]; intro xs h; cases h⟩) | exact ha.elim
theorem Form.small (h : Form cs w as k) : as.length ≤ 1 ∧ k ≤ 6 := by
  cases h <;> simp <;> assumption
theorem Form.mono {cs' : Str → Nat → Prop} (h : Form cs w as k) (hc : ∀ x k, cs x k → cs' x k) : Form cs' w as k := by
  cases h
  · exact .take
  · exact .num _ (by assumption) (by assumption)
  · exact .name _ (by assumption)
  · exact .op _ (by assumption)
  · exact .pick
  · exact .let _ (by assumption)
  · exact .set _ (by assumption)
  · exact .say
  · exact .do _ (by assumption) (by assumption)
  · exact .again _ (by assumption) (by assumption)
  · exact .call _ _ (hc _ _ (by assumption)) (by assumption) (by assumption)
theorem Tr.mono {cs' : Str → Nat → Prop} (hc : ∀ x k, cs x k → cs' x k) {d : Nat} (h : Tr cs d e) : ∀ {d'}, d ≤ d' → Tr cs' d' e := by
  induction h with
  | mk f hk ih =>
    intro d' hd
    cases d' with
    | zero => omega
    | succ d' => exact .mk (f.mono hc) fun a ha => ih a ha (by omega)
/-- what is bound at a part -/
def inb (w : W) (as : List PyData) (bs : List Str) (i : Nat) : List Str := match w, as, i with
  | .let_, [.str x], 1 => bs ++ [x]
  | _, _, _ => bs
/-- trees in which no set has a name that is bound around it -/
inductive Gd (cs : Str → Nat → Prop) : Nat → List Str → PyData → Prop
  | mk {w : W} {as ks : List PyData} {n : Nat} {bs : List Str} : Form cs w as ks.length → (∀ x, w = .set_ → as = [.str x] → x ∉ bs) → (∀ i a, ks[i]? = some a → Gd cs n (inb w as bs i) a) → Gd cs (n + 1) bs (.tuple (.str w.s :: (as ++ ks)))
theorem Gd.tr {d : Nat} {bs : List Str} (h : Gd cs d bs e) : Tr cs d e := by
  induction h with
  | mk f hs hk ih => exact .mk f fun a ha => (List.getElem?_of_mem ha).elim fun i hi => ih i a hi
theorem Gd.mono {cs' : Str → Nat → Prop} (hc : ∀ x k, cs x k → cs' x k) {d : Nat} {bs : List Str} (h : Gd cs d bs e) : ∀ {d'}, d ≤ d' → Gd cs' d' bs e := by
  induction h with
  | mk f hs hk ih =>
    intro d' hd
    cases d' with
    | zero => omega
    | succ d' => exact .mk (f.mono hc) hs fun i a ha => ih i a ha (by omega)
theorem Tr.isT {d : Nat} (h : Tr cs d e) : isT e = true ∧ notD e = true := by cases h; exact ⟨rfl, rfl⟩
theorem filt_as (h : ∀ a ∈ as, Mp.isT a = false) (hk : ∀ a ∈ ks, Mp.isT a = true) : (as ++ ks).filter Mp.isT = ks ∧ (as ++ ks).filter (fun a => !Mp.isT a) = as := by
  rw [List.filter_append, List.filter_append]
  have e1 : as.filter Mp.isT = [] := List.filter_eq_nil_iff.mpr fun a ha => by rw [h a ha]; exact Bool.false_ne_true
  have e2 : ks.filter Mp.isT = ks := List.filter_eq_self.mpr hk
  have e3 : as.filter (fun a => !Mp.isT a) = as := List.filter_eq_self.mpr fun a ha => by rw [h a ha]; rfl
  have e4 : ks.filter (fun a => !Mp.isT a) = [] := List.filter_eq_nil_iff.mpr fun a ha => by rw [hk a ha]; exact Bool.false_ne_true
  rw [e1, e2, e3, e4]
  simp
end
theorem isi_tup {x : PyData} (h : notD x = true) : isiop x .tuple = some (isT x) := by
  cases x <;> first | rfl | cases h
theorem fm_filter (p : PyData → Bool) : ∀ xs : List PyData, xs.filterMap (fun x => if p x then some x else none) = xs.filter p
  | [] => rfl
  | x :: xs => by
    rw [List.filter_cons]
    cases h : p x with
    | true => rw [List.filterMap_cons_some (b := x) (by rw [h]; rfl), fm_filter p xs]; rfl
    | false => rw [List.filterMap_cons_none (by rw [h]; rfl), fm_filter p xs]; rfl
theorem fm_map {f : PyData → PyData} : ∀ xs : List PyData, xs.filterMap (fun x => some (f x)) = xs.map f
  | [] => rfl
  | x :: xs => by
    have ih := fm_map (f := f) xs
    rw [List.map_cons, ← ih]
    rfl
theorem cutL_from {α : Type} (x : α) (xs : List α) : cutL (x :: xs) (some 1) none = xs := by
  unfold cutL
  rw [show (some (1 : Int)) = some ((1 : Nat) : Int) from rfl, HT.sIx_nat, HT.sIx_none]
  rw [Nat.min_eq_left (by simp)]
  simp
local macro_rules
  | `(tactic| trivial) => `(tactic| simp only [evE_var, evE_cst, evE_bin, evE_neg, evE_cmp, evE_and, evE_or, evE_not, evE_ite, evE_tup, evE_lst, evE_dic, evE_idx, evE_slf, evE_slt, evE_sl2, evE_call, evE_isi, evE_blt, evE_mth, evL_nil, evL_cons, evAnd_one, evAnd_cons, evOr_one, evOr_cons, evS_sti, evS_app, evS_ext, evS_unp,
    Ok_bind, Ok_ok, bind_ok, Ct_non, Ct_bl, Ct_int, Ct_str, List.getElem?_cons_zero, List.getElem?_cons_succ, List.set_cons_zero, List.set_cons_succ, rd2, rd_d, rd2_d, opt_some, opB_some, asB_b, fz_d, fzL_nil, fzL_cons, mkl_f, mkl_t, outM_val, outM_lst, outM_dct, b_add, b_sub, b_mod, b_fdiv, b_mul_l, b_mul_r, c_lt, c_le, c_gt, c_ge, c_eqi, c_eqs, c_nes, Int.reduceLT, Int.reduceLE, bl_lenl, bl_lent, bl_lens, bl_tupl, bl_tupt, bl_lstl, bl_lstt, bl_stri, bl_strs, bl_intb, i_list, i_tup, atI_0, atI_1, atI_2, atI_3, sl_list, sl_tup, sl_str, isiop, negop, in_strs, nin_strs, kOf, and_self, true_and, and_true, ite_true, ite_false, if_true, if_false, Bool.true_or, Bool.or_true, Bool.false_or, Bool.or_false, Bool.not_true, Bool.not_false, decide_true, decide_false, Option.map_some, *])

section
variable {T : Str → Option Fn}
/-- a call that leaves the cells -/
def Pu (T : Str → Option Fn) (n : Nat) (f : Str) (vs : List Vl) (d : PyData) : Prop := ∀ m, callN T n f vs m = .ok (.d d) m
theorem Pu.ok {n : Nat} {f : Str} {vs : List Vl} {d : PyData} (h : Pu T n f vs d) {m : Mem} {Q : Vl → Mem → Prop} (q : Q (.d d) m) : Ok (callN T n f vs m) Q := by rw [h m]; exact .of q
theorem Pu.of {n : Nat} {f : Str} {vs : List Vl} {d : PyData} (h : ∀ m, Ok (callN T n f vs m) fun v m' => v = .d d ∧ m' = m) : Pu T n f vs d := fun m => by
  obtain ⟨v, m', e, rfl, rfl⟩ := h m
  exact e
theorem parts_pu {n : Nat} {x : PyData} {xs : List PyData} (hT : T "_law_parts" = some F_law_parts) (h : ∀ a ∈ xs, notD a = true) : Pu T (n + 1) "_law_parts" [.d (.tuple (x :: xs))] (.list (xs.filter isT)) := .of fun m => by
  refine call_ok hT rfl ?_
  show Ok (evB (callN T n) F_law_parts.body [some (.d (.tuple (x :: xs))), none] m) fun fl m1 => Ok (fin false m.length fl m1) _
  refine xB (x_ret (x_lci (fun x => if isT x then some x else none) ?_))
  simp only [evI_e, evE_slf, evE_var, evE_cst, Ct_int, Ok_bind, Ok_ok, bind_ok, List.getElem?_cons_zero, rd_d, sl_tup, cutL_from, opt_some, fz_d]
  refine .of ⟨fun a ha acc => ⟨_, rfl, ?_⟩, ?_⟩
  · have e : (List.set (wipeE [some (Vl.d (PyData.tuple (x :: xs))), none] [1]) 1 (some (Vl.d a))) = [some (Vl.d (PyData.tuple (x :: xs))), some (.d a)] := rfl
    show Ok (evE (callN T n) (.isi (.var 1) .tuple) [some (Vl.d (PyData.tuple (x :: xs))), some (.d a)] _) _
    simp only [evE_isi, evE_var, List.getElem?_cons_succ, List.getElem?_cons_zero, Ok_bind, Ok_ok, rd_d, isi_tup (h a ha), opB_some]
    refine ⟨True.intro, _, rfl, fun hb => by rw [hb]; rfl, fun hb => ?_⟩
    show Ok (evE (callN T n) (.var 1) [some (Vl.d (PyData.tuple (x :: xs))), some (.d a)] _) _
    simp only [evE_var, List.getElem?_cons_succ, List.getElem?_cons_zero, Ok_ok]
    exact ⟨a, rfl, by rw [hb]; rfl, True.intro⟩
  · rw [fm_filter]
    simp only [Bool.false_eq_true, if_false, fin_d, Ok_ok, take_same rfl]
    exact ⟨True.intro, True.intro⟩
end
end Mp
-- Ev8
set_option Elab.async false
set_option linter.all false
set_option maxRecDepth 100000
set_option maxHeartbeats 2000000
namespace Mp
open PySem L2
local macro_rules
  | `(tactic| trivial) => `(tactic| simp only [evE_var, evE_cst, evE_bin, evE_neg, evE_cmp, evE_and, evE_or, evE_not, evE_ite, evE_tup, evE_lst, evE_dic, evE_idx, evE_slf, evE_slt, evE_sl2, evE_call, evE_isi, evE_blt, evE_mth, evL_nil, evL_cons, evAnd_one, evAnd_cons, evOr_one, evOr_cons, evS_sti, evS_app, evS_ext, evS_unp,
    Ok_bind, Ok_ok, bind_ok, Ct_non, Ct_bl, Ct_int, Ct_str, List.getElem?_cons_zero, List.getElem?_cons_succ, List.set_cons_zero, List.set_cons_succ, rd2, rd_d, rd2_d, opt_some, opB_some, asB_b, fz_d, fzL_nil, fzL_cons, mkl_f, mkl_t, outM_val, outM_lst, outM_dct, b_add, b_sub, b_mod, b_fdiv, b_mul_l, b_mul_r, c_lt, c_le, c_gt, c_ge, c_eqi, c_eqs, c_nes, Int.reduceLT, Int.reduceLE, bl_lenl, bl_lent, bl_lens, bl_tupl, bl_tupt, bl_lstl, bl_lstt, bl_stri, bl_strs, bl_intb, i_list, i_tup, atI_0, atI_1, atI_2, atI_3, sl_list, sl_tup, sl_str, isiop, negop, in_strs, nin_strs, lit_take, lit_num, lit_name, lit_op, lit_pick, lit_let, lit_set, lit_say, lit_do, lit_again, lit_call, W.s_inj, reduceCtorEq, kOf, and_self, true_and, and_true, ite_true, ite_false, if_true, if_false, Bool.true_or, Bool.or_true, Bool.false_or, Bool.or_false, Bool.not_true, Bool.not_false, decide_true, decide_false, Option.map_some, *])

theorem ints_of : ∀ (xs : List Int), intsOf (xs.map .int) = some xs
  | [] => rfl
  | x :: xs => by rw [List.map_cons, intsOf, ints_of xs]; rfl
theorem bools_of : ∀ (xs : List Bool), boolsOf (xs.map .bool) = some xs
  | [] => rfl
  | x :: xs => by rw [List.map_cons, boolsOf, bools_of xs]; rfl
theorem bl_sum {xs : List Int} : bltop .sum (.list (xs.map .int)) = some (.val (.int xs.sum)) := by
  show (intsOf (xs.map .int)).map _ = _
  rw [ints_of]; rfl
theorem bl_all {xs : List Bool} : bltop .all (.list (xs.map .bool)) = some (.val (.bool (xs.all id))) := by
  show (boolsOf (xs.map .bool)).map _ = _
  rw [bools_of]; rfl
theorem sum_cast : ∀ xs : List PyData, (xs.map fun x => ((cnt x : Nat) : Int)).sum = ((cntL xs : Nat) : Int)
  | [] => rfl
  | x :: xs => by rw [List.map_cons, List.sum_cons, sum_cast xs, cntL]; omega
section
variable {T : Str → Option Fn} {cs : Str → Nat → Prop}
theorem with_ok {n : Nat} {xs ys : List PyData} {iv : Vl} {m : Mem} {Q : Vl → Mem → Prop} (hT : T "_law_with" = some F_law_with) (h : ∀ a ∈ xs, notD a = true) (hi : rd m iv = some (.list ys)) (hi2 : ∀ c, rd (m ++ [c]) iv = some (.list ys)) (hx : xs.length ≤ 1000) (hy : ys.length ≤ 1000)
    (hQ : Q (.d (.tuple (xs.filter (fun a => !isT a) ++ ys))) m) : Ok (callN T (n + 1) "_law_with" [.d (.tuple xs), iv] m) Q := by
  refine call_ok hT rfl ?_
  show Ok (evB (callN T n) F_law_with.body [some (.d (.tuple xs)), some iv, none] m) fun fl m1 => Ok (fin false m.length fl m1) _
  refine xB (x_ret ?_)
  rw [evE_blt, Ok_bind, evE_bin, Ok_bind]
  refine x_lci (fun x => if isT x then none else some x) ?_
  simp only [evI_e, evE_var, Ok_bind, Ok_ok, bind_ok, List.getElem?_cons_zero, rd_d, fz_d]
  refine .of ⟨fun a ha acc => ⟨_, rfl, ?_⟩, ?_⟩
  · show Ok (evE (callN T n) (.not (.isi (.var 2) .tuple)) [some (Vl.d (PyData.tuple xs)), some iv, some (.d a)] _) _
    simp only [evE_not, evE_isi, evE_var, List.getElem?_cons_succ, List.getElem?_cons_zero, Ok_bind, Ok_ok, rd_d, isi_tup (h a ha), opB_some, asB_b]
    refine ⟨True.intro, _, rfl, fun hb => by have : isT a = true := by simpa using hb
                                             simp [this], fun hb => ?_⟩
    have hb : isT a = false := by simpa using hb
    show Ok (evE (callN T n) (.var 2) [some (Vl.d (PyData.tuple xs)), some iv, some (.d a)] _) _
    simp only [evE_var, List.getElem?_cons_succ, List.getElem?_cons_zero, Ok_ok]
    exact ⟨a, rfl, by simp [hb], True.intro⟩
  · have ef : xs.filterMap (fun x => if isT x then none else some x) = xs.filter (fun a => !isT a) := by
      rw [← fm_filter]
      refine congrArg (fun g => List.filterMap g xs) (funext fun x => ?_)
      cases isT x <;> rfl
    have l1 : (xs.filter (fun a => !isT a)).length ≤ xs.length := List.length_filter_le ..
    rw [ef]
    simp only [Bool.false_eq_true, if_false, evE_var, List.getElem?_cons_succ, List.getElem?_cons_zero, Ok_bind, Ok_ok, rd2, rd_d, hi, b_addl (small (show (xs.filter (fun a => !isT a)).length + ys.length ≤ 1000000 by omega)), opt_some, bl_tupl, outM_val, fin_d, take_same rfl]
    exact hQ
/-- a tree taken apart -/
theorem Tr.parts {n d : Nat} {e : PyData} (hT : T "_law_parts" = some F_law_parts) (h : Tr cs d e) : ∃ (w : W) (as ks : List PyData) (d' : Nat), d = d' + 1 ∧ e = .tuple (.str w.s :: (as ++ ks)) ∧ Form cs w as ks.length ∧ (∀ a ∈ ks, Tr cs d' a) ∧ Pu T (n + 1) "_law_parts" [.d e] (.list ks) := by
  cases h with
  | @mk w as ks d' f hk =>
    refine ⟨w, as, ks, d', rfl, rfl, f, hk, ?_⟩
    have q := parts_pu (n := n) (x := .str w.s) (xs := as ++ ks) hT fun a ha => (List.mem_append.mp ha).elim (fun z => (f.flat a z).2.1) fun z => (hk a z).isT.2
    rw [(filt_as (fun a ha => (f.flat a ha).1) fun a ha => (hk a ha).isT.1).1] at q
    exact q
theorem nodes_pu (hP : T "_law_parts" = some F_law_parts) (hT : T "_law_nodes" = some F_law_nodes) : ∀ (d n : Nat) (e : PyData), Tr cs d e → Pu T (n + d + 1) "_law_nodes" [.d e] (.int (cnt e))
  | 0, n, e, h => by cases h
  | d + 1, n, e, h => .of fun m => by
    obtain ⟨w, as, ks, d', hd, rfl, f, hk, hp⟩ := h.parts (n := n + d) hP
    have hd : d' = d := by omega
    subst hd
    refine call_ok hT rfl ?_
    generalize he : PyData.tuple (.str w.s :: (as ++ ks)) = e at hp
    show Ok (evB (callN T (n + d' + 1)) F_law_nodes.body [some (.d e), none] m) fun fl m1 => Ok (fin false m.length fl m1) _
    refine xB (x_ret ?_)
    rw [evE_bin, Ok_bind, evE_cst, Ok_ok, evE_blt, Ok_bind, Ok_bind]
    refine x_lc (fun x => some (.int (cnt x))) ?_
    simp only [evI_e, evE_call, evL_cons, evL_nil, evE_var, Ok_bind, Ok_ok, bind_ok, List.getElem?_cons_zero]
    refine hp.ok ?_
    simp only [fz_d, Ok_ok]
    refine .of ⟨fun a ha acc => ⟨_, rfl, ?_⟩, ?_⟩
    · show Ok (R.ok (Vl.d a) (m ++ [Cell.lst acc])) _
      rw [Ok_ok]
      exact (nodes_pu hP hT d' n a (hk a ha)).ok ⟨_, rfl, rfl, rfl⟩
    · have em : ks.map (fun x => PyData.int (cnt x)) = (ks.map fun x => ((cnt x : Nat) : Int)).map .int := by rw [List.map_map]; rfl
      rw [fm_map (f := fun x => PyData.int (cnt x)), em]
      simp only [Bool.false_eq_true, if_false, rd_d, bl_sum, outM_val, Ok_ok, Ct_int, rd2_d, b_add, opt_some, fin_d, take_same rfl, sum_cast]
      rw [← he, cnt, cntL, cntL_app]
      have e0 : cntL as = 0 := by
        have : ∀ l : List PyData, (∀ a ∈ l, cnt a = 0) → cntL l = 0 := by
          intro l
          induction l with
          | nil => intro _; rfl
          | cons x l ih => intro h; rw [cntL, h x List.mem_cons_self, ih fun y hy => h y (List.mem_cons_of_mem _ hy)]
        exact this as fun a ha => (f.flat a ha).2.2
      have es : cnt (.str w.s) = 0 := by rw [cnt]; intro xs h; cases h
      rw [e0, es]
      refine ⟨?_, True.intro⟩
      simp
end
end Mp
-- Ev9
set_option Elab.async false
set_option linter.all false
set_option maxRecDepth 100000
set_option maxHeartbeats 2000000
namespace Mp
open PySem L2
local macro_rules
  | `(tactic| trivial) => `(tactic| simp only [evE_var, evE_cst, evE_bin, evE_neg, evE_cmp, evE_and, evE_or, evE_not, evE_ite, evE_tup, evE_lst, evE_dic, evE_idx, evE_slf, evE_slt, evE_sl2, evE_call, evE_isi, evE_blt, evE_mth, evL_nil, evL_cons, evAnd_one, evAnd_cons, evOr_one, evOr_cons, evS_sti, evS_app, evS_ext, evS_unp,
    Ok_bind, Ok_ok, bind_ok, Ct_non, Ct_bl, Ct_int, Ct_str, List.getElem?_cons_zero, List.getElem?_cons_succ, List.set_cons_zero, List.set_cons_succ, rd2, rd_d, rd2_d, opt_some, opB_some, asB_b, fz_d, fzL_nil, fzL_cons, mkl_f, mkl_t, outM_val, outM_lst, outM_dct, b_add, b_sub, b_mod, b_fdiv, b_mul_l, b_mul_r, c_lt, c_le, c_gt, c_ge, c_eqi, c_eqs, c_nes, Int.reduceLT, Int.reduceLE, bl_lenl, bl_lent, bl_lens, bl_tupl, bl_tupt, bl_lstl, bl_lstt, bl_stri, bl_strs, bl_intb, i_list, i_tup, atI_0, atI_1, atI_2, atI_3, sl_list, sl_tup, sl_str, isiop, negop, in_strs, nin_strs, lit_take, lit_num, lit_name, lit_op, lit_pick, lit_let, lit_set, lit_say, lit_do, lit_again, lit_call, W.s_inj, reduceCtorEq, kOf, and_self, true_and, and_true, ite_true, ite_false, if_true, if_false, Bool.true_or, Bool.or_true, Bool.false_or, Bool.or_false, Bool.not_true, Bool.not_false, decide_true, decide_false, Option.map_some, *])

section
variable {F : Fs} {r : En} {m : Mem} {Q : Vl → Mem → Prop}
theorem paired_snoc {α β : Type} {P : α → β → Prop} : ∀ {xs : List α} {ys : List β} {x : α} {y : β}, Paired P xs ys → P x y → Paired P (xs ++ [x]) (ys ++ [y])
  | _, _, _, _, .nil, h => .cons h .nil
  | _, _, _, _, .cons a t, h => .cons a (paired_snoc t h)
/-- items of which only something is known -/
theorem x_lcE {fl : Bool} {e : Ex} {tg : Tg} {it : Mp.It} (P : PyData → PyData → Prop) (h : Ok (evI F it r m) fun xs m1 => (∀ x ∈ xs, ∀ acc, ∃ r1, bindT (wipeE r tg.slots) tg x = some r1 ∧ Ok (evE F e r1 (m1 ++ [.lst acc])) fun v m2 => ∃ d, v = .d d ∧ P x d ∧ m2 = m1 ++ [.lst acc]) ∧ ∀ ds, Paired P xs ds → Q (if fl then .r m1.length else .d (.list ds)) (if fl then m1 ++ [.lst ds] else m1)) :
    Ok (evE F (.lc fl e tg it) r m) Q := by
  show Ok ((evI F it r m).bind _) Q
  rw [Ok_bind]
  refine h.mono fun xs m1 ⟨hb, hq⟩ => ?_
  rw [Ok_bind]
  refine lcL_ok (fun n acc m' => m' = m1 ++ [.lst acc] ∧ Paired P (xs.take n) acc) (acc := []) (Nat.le_refl _) at_last ⟨rfl, .nil⟩ ?_ ?_
  · rintro i x m' acc ⟨j, hj, hij⟩ hk ⟨rfl, hp⟩
    have e1 : i = j := by omega
    subst e1
    have hx : x ∈ xs := List.mem_of_getElem? hj
    obtain ⟨r1, e1, ⟨v, m2, e2, d, rfl, e3, rfl⟩⟩ := hb x hx acc
    simp only [e1, e2, bind_ok, fz_d]
    refine .of ⟨at_last, ?_, ?_⟩
    · rw [List.set_append_right _ _ (Nat.le_refl _), Nat.sub_self]; rfl
    · have e4 : xs.take (i + 1) = xs.take i ++ [x] := by
        rw [List.take_add_one, hj]; rfl
      rw [e4]
      exact paired_snoc hp e3
  · rintro m' acc hk ⟨rfl, hp⟩
    rw [Nat.zero_add, List.take_length] at hp
    exact lc_end (hq acc hp)
end
theorem ints_p : ∀ {xs ds : List PyData}, Paired (fun _ d => ∃ i : Int, d = .int i) xs ds → ∃ is : List Int, ds = is.map .int
  | _, _, .nil => ⟨[], rfl⟩
  | _, _, .cons ⟨i, e⟩ t => by
    obtain ⟨is, e2⟩ := ints_p t
    exact ⟨i :: is, by rw [e, e2]; rfl⟩
theorem bools_p : ∀ {xs ds : List PyData}, Paired (fun _ d => ∃ i : Bool, d = .bool i) xs ds → ∃ is : List Bool, ds = is.map .bool
  | _, _, .nil => ⟨[], rfl⟩
  | _, _, .cons ⟨i, e⟩ t => by
    obtain ⟨is, e2⟩ := bools_p t
    exact ⟨i :: is, by rw [e, e2]; rfl⟩
section
variable {T : Str → Option Fn} {cs : Str → Nat → Prop} {as : List PyData} {k : Nat}
theorem Form.again_inv (h : Form cs .again_ as k) : ∃ i, as = [.int i] ∧ 0 ≤ i ∧ i ≤ 5 ∧ k = 1 := by
  cases h
  exact ⟨_, rfl, by assumption, by assumption, rfl⟩
theorem Form.call_inv (h : Form cs .call_ as k) : ∃ x, as = [.str x] ∧ cs x k ∧ Nw x := by
  cases h
  exact ⟨_, rfl, by assumption, by assumption⟩
theorem Form.let_inv (h : Form cs .let_ as k) : ∃ x, as = [.str x] ∧ Nw x ∧ k = 2 := by
  cases h
  exact ⟨_, rfl, by assumption, rfl⟩
theorem Form.set_inv (h : Form cs .set_ as k) : ∃ x, as = [.str x] ∧ Nw x ∧ k = 1 := by
  cases h
  exact ⟨_, rfl, by assumption, rfl⟩
theorem Form.name_inv (h : Form cs .name_ as k) : ∃ x, as = [.str x] ∧ Nw x ∧ k = 0 := by
  cases h
  exact ⟨_, rfl, by assumption, rfl⟩
/-- what a dict of works tells -/
def Wks (cs : Str → Nat → Prop) (l : List (Key × PyData)) : Prop := ∀ x k, cs x k → ∃ i : Int, lookK l (.inr x) = some (.int i)
theorem idx_dict {l : List (Key × PyData)} {x : Str} : idxop (.dict (reK l)) (.str x) = lookK l (.inr x) := by
  show (match kOf (.str x), unK (reK l) with | some k, some l => lookK l k | _, _ => none) = _
  rw [unK_reK]
  rfl
theorem work_ok {wv : Vl} {l : List (Key × PyData)} (hl : Wks cs l) (hP : T "_law_parts" = some F_law_parts) (hT : T "_law_work" = some F_law_work) : ∀ (d n : Nat) (e : PyData) (m : Mem), Tr cs d e → (∀ ext, rd (m ++ ext) wv = some (.dict (reK l))) →
    Ok (callN T (n + d + 1) "_law_work" [.d e, wv] m) fun v m' => (∃ i : Int, v = .d (.int i)) ∧ m' = m
  | 0, n, e, m, h, _ => by cases h
  | d + 1, n, e, m, h, hw => by
    obtain ⟨w, as, ks, d', hd, rfl, f, hk, hp⟩ := h.parts (n := n + d) hP
    have hd : d' = d := by omega
    subst hd
    refine call_ok hT rfl ?_
    have hw0 : rd m wv = some (.dict (reK l)) := by have := hw []; rwa [List.append_nil] at this
    generalize he : PyData.tuple (.str w.s :: (as ++ ks)) = e at hp
    show Ok (evB (callN T (n + d' + 1)) F_law_work.body [some (.d e), some wv, none, none] m) fun fl m1 => Ok (fin false m.length fl m1) _
    refine xB (x_asg ?_)
    rw [evE_blt, Ok_bind]
    refine x_lcE (fun _ d => ∃ i : Int, d = .int i) ?_
    simp only [evI_e, evE_call, evL_cons, evL_nil, evE_var, Ok_bind, Ok_ok, bind_ok, List.getElem?_cons_zero, List.getElem?_cons_succ]
    refine hp.ok ?_
    simp only [fz_d, Ok_ok]
    refine .of ⟨fun a ha acc => ⟨_, rfl, ?_⟩, ?_⟩
    · show Ok (R.ok (Vl.d a) (m ++ [Cell.lst acc])) _
      rw [Ok_ok]
      show Ok (R.ok wv (m ++ [Cell.lst acc])) _
      rw [Ok_ok]
      refine (work_ok hl hP hT d' n a _ (hk a ha) fun ext => by rw [List.append_assoc]; exact hw _).mono ?_
      rintro v m2 ⟨⟨i, rfl⟩, rfl⟩
      exact ⟨_, rfl, ⟨i, rfl⟩, rfl⟩
    · intro ds hds
      obtain ⟨is, rfl⟩ := ints_p hds
      simp only [Bool.false_eq_true, if_false, rd_d, bl_sum, outM_val, Ok_ok]
      generalize is.sum = S
      subst he
      show Ok (evB (callN T (n + d' + 1)) (F_law_work.body.tl 1) [some (.d (.tuple (.str w.s :: (as ++ ks)))), some wv, some (.d (.int S)), none] m) fun fl m1 => Ok (fin false m.length fl m1) _
      refine xB (x_ife ?_)
      simp only [evE_cmp, evE_idx, evE_var, evE_cst, Ct_str, Ct_int, Ok_bind, Ok_ok, List.getElem?_cons_zero, rd2_d, i_tup, atI_0, opt_some, lit_again, c_eqs, W.s_inj, opB_some]
      refine ⟨_, rfl, fun hb => ?_, fun hb => x_nil ?_⟩
      · have hb := of_decide_eq_true hb
        subst hb
        obtain ⟨i, rfl, i0, i1, _⟩ := f.again_inv
        have oi : okI i = true := okI_by (by omega) (by omega)
        refine xB (x_ret ?_)
        simp only [evE_bin, evE_idx, evE_var, evE_cst, Ct_int, Ok_bind, Ok_ok, List.getElem?_cons_zero, List.getElem?_cons_succ, rd2_d, i_tup, List.cons_append, atI_1, opt_some, b_mul_l oi, b_add, fin_d, take_same rfl]
        exact ⟨⟨_, rfl⟩, True.intro⟩
      · show Ok (evB (callN T (n + d' + 1)) (F_law_work.body.tl 2) [some (.d (.tuple (.str w.s :: (as ++ ks)))), some wv, some (.d (.int S)), none] m) _
        refine xB (x_ife ?_)
        simp only [evE_cmp, evE_idx, evE_var, evE_cst, Ct_str, Ct_int, Ok_bind, Ok_ok, List.getElem?_cons_zero, rd2_d, i_tup, atI_0, opt_some, lit_call, c_eqs, W.s_inj, opB_some]
        refine ⟨_, rfl, fun hb => ?_, fun hb => x_nil ?_⟩
        · have hb := of_decide_eq_true hb
          subst hb
          obtain ⟨x, rfl, hx, _⟩ := f.call_inv
          obtain ⟨i, hi⟩ := hl x _ hx
          refine xB (x_ret ?_)
          simp only [evE_bin, evE_idx, evE_var, evE_cst, Ct_int, Ok_bind, Ok_ok, List.getElem?_cons_zero, List.getElem?_cons_succ, rd2, rd_d, hw0, i_tup, List.cons_append, atI_1, opt_some, idx_dict, hi, b_add, fin_d, take_same rfl]
          exact ⟨⟨_, rfl⟩, True.intro⟩
        · refine xB (x_ret ?_)
          simp only [evE_bin, evE_var, evE_cst, Ct_int, Ok_bind, Ok_ok, List.getElem?_cons_zero, List.getElem?_cons_succ, rd2_d, opt_some, b_add, fin_d, take_same rfl]
          exact ⟨⟨_, rfl⟩, True.intro⟩
theorem bools_g {P : PyData → Prop} : ∀ {xs ds : List PyData}, Paired (fun a d => ∃ i : Bool, d = .bool i ∧ (i = true → P a)) xs ds → ∃ is : List Bool, ds = is.map .bool ∧ (is.all id = true → ∀ a ∈ xs, P a)
  | _, _, .nil => ⟨[], rfl, fun _ _ h => by cases h⟩
  | _, _, .cons ⟨i, e, h⟩ t => by
    obtain ⟨is, e2, h2⟩ := bools_g t
    refine ⟨i :: is, by rw [e, e2]; rfl, fun hb a ha => ?_⟩
    rw [List.all_cons, Bool.and_eq_true] at hb
    rcases List.mem_cons.mp ha with rfl | ha
    · exact h hb.1
    · exact h2 hb.2 a ha
theorem inb_else {w : W} {as : List PyData} {bs : List Str} {i : Nat} (h : w ≠ .let_) : inb w as bs i = bs := by
  unfold inb
  split
  · exact absurd rfl h
  · rfl
theorem right_ok (hP : T "_law_parts" = some F_law_parts) (hT : T "_law_right" = some F_law_right) : ∀ (d n : Nat) (e : PyData) (bs : List Str) (m : Mem), Tr cs d e → bs.length + d ≤ 1000 →
    Ok (callN T (n + d + 1) "_law_right" [.d e, .d (.list (bs.map .str))] m) fun v m' => (∃ b : Bool, v = .d (.bool b) ∧ (b = true → Gd cs d bs e)) ∧ m' = m
  | 0, n, e, bs, m, h, _ => by cases h
  | d + 1, n, e, bs, m, h, hbs => by
    obtain ⟨w, as, ks, d', hd, rfl, f, hk, hp⟩ := h.parts (n := n + d) hP
    have hd : d' = d := by omega
    subst hd
    have IH := fun a ha bs m hb => right_ok hP hT d' n a bs m (hk a ha) hb
    refine call_ok hT rfl ?_
    show Ok (evB (callN T (n + d' + 1)) F_law_right.body [some (.d (.tuple (.str w.s :: (as ++ ks)))), some (.d (.list (bs.map .str))), none] m) fun fl m1 => Ok (fin false m.length fl m1) _
    have two : (∀ x, w = .set_ → as = [.str x] → x ∉ bs) → Ok (evB (callN T (n + d' + 1)) (F_law_right.body.tl 1) [some (.d (.tuple (.str w.s :: (as ++ ks)))), some (.d (.list (bs.map .str))), none] m) fun fl m1 => Ok (fin false m.length fl m1) fun v m' => (∃ b : Bool, v = .d (.bool b) ∧ (b = true → Gd cs (d' + 1) bs (.tuple (.str w.s :: (as ++ ks))))) ∧ m' = m := by
      intro hset
      refine xB (x_ife ?_)
      simp only [evE_cmp, evE_idx, evE_var, evE_cst, Ct_str, Ct_int, Ok_bind, Ok_ok, List.getElem?_cons_zero, rd2_d, i_tup, atI_0, opt_some, lit_let, c_eqs, W.s_inj, opB_some]
      refine ⟨_, rfl, fun hb => ?_, fun hb => x_nil ?_⟩
      · have hb := of_decide_eq_true hb
        subst hb
        obtain ⟨x, rfl, hx, hk2⟩ := f.let_inv
        obtain ⟨a, b, rfl⟩ : ∃ a b, ks = [a, b] := by
          rcases ks with _ | ⟨a, _ | ⟨b, _ | ⟨c, ks⟩⟩⟩ <;> simp at hk2
          exact ⟨a, b, rfl⟩
        refine xB (x_ret ?_)
        simp only [evE_and, evAnd_cons, evAnd_one, evE_call, evL_cons, evL_nil, evE_idx, evE_var, evE_cst, Ct_int, Ok_bind, Ok_ok, bind_ok, List.getElem?_cons_zero, List.getElem?_cons_succ, rd2_d, i_tup, List.cons_append, List.nil_append, atI_2, opt_some]
        refine (IH a (by simp) bs m (by omega)).mono ?_
        rintro v m2 ⟨⟨b1, rfl, g1⟩, rfl⟩
        simp only [asB_b, Ok_ok]
        cases b1 with
        | false =>
          simp only [Ok_ok, fin_d, take_same rfl]
          exact ⟨⟨_, rfl, fun h => by cases h⟩, True.intro⟩
        | true =>
          have ea : bs.map PyData.str ++ [PyData.str x] = (bs ++ [x]).map .str := by simp
          simp only [evE_bin, evE_lst, evE_call, evL_cons, evL_nil, evE_idx, evE_var, evE_cst, Ct_int, fzL_cons, fzL_nil, fz_d, mkl_f, Ok_bind, Ok_ok, bind_ok, List.getElem?_cons_zero, List.getElem?_cons_succ, rd2_d, i_tup, atI_1, atI_3, opt_some, b_addl (small (show (bs.map PyData.str).length + [PyData.str x].length ≤ 1000000 by simp; omega)), ea]
          refine (IH b (by simp) (bs ++ [x]) m2 (by simp; omega)).mono ?_
          rintro v m3 ⟨⟨b2, rfl, g2⟩, rfl⟩
          simp only [asB_b, Ok_ok, fin_d, take_same rfl]
          refine ⟨⟨_, rfl, fun h => ?_⟩, True.intro⟩
          refine .mk (as := [.str x]) (ks := [a, b]) f (fun _ h => by cases h) fun i z hz => ?_
          match i, hz with
          | 0, hz => cases hz; exact g1 rfl
          | 1, hz => cases hz; exact g2 h
          | i + 2, hz => simp at hz
      · have hb := of_decide_eq_false hb
        show Ok (evB (callN T (n + d' + 1)) (F_law_right.body.tl 2) [some (.d (.tuple (.str w.s :: (as ++ ks)))), some (.d (.list (bs.map .str))), none] m) _
        refine xB (x_ret ?_)
        rw [evE_blt, Ok_bind]
        refine x_lcE (fun a d => ∃ i : Bool, d = .bool i ∧ (i = true → Gd cs d' bs a)) ?_
        simp only [evI_e, evE_call, evL_cons, evL_nil, evE_var, Ok_bind, Ok_ok, bind_ok, List.getElem?_cons_zero, List.getElem?_cons_succ]
        refine hp.ok ?_
        simp only [fz_d, Ok_ok]
        refine .of ⟨fun a ha acc => ⟨_, rfl, ?_⟩, ?_⟩
        · show Ok (R.ok (Vl.d a) (m ++ [Cell.lst acc])) _
          rw [Ok_ok]
          show Ok (R.ok (Vl.d (.list (bs.map .str))) (m ++ [Cell.lst acc])) _
          rw [Ok_ok]
          refine (IH a ha bs _ (by omega)).mono ?_
          rintro v m2 ⟨⟨i, rfl, g⟩, rfl⟩
          exact ⟨_, rfl, ⟨i, rfl, g⟩, rfl⟩
        · intro ds hds
          obtain ⟨is, rfl, g⟩ := bools_g hds
          simp only [Bool.false_eq_true, if_false, rd_d, bl_all, outM_val, Ok_ok, fin_d, take_same rfl]
          refine ⟨⟨_, rfl, fun h => .mk f hset fun i z hz => ?_⟩, True.intro⟩
          rw [inb_else hb]
          exact g h z (List.mem_of_getElem? hz)
    refine xB (x_ife ?_)
    simp only [evE_and, evAnd_cons, evAnd_one, evE_cmp, evE_idx, evE_var, evE_cst, Ct_str, Ct_int, Ok_bind, Ok_ok, List.getElem?_cons_zero, List.getElem?_cons_succ, rd2_d, i_tup, atI_0, opt_some, lit_set, c_eqs, W.s_inj, opB_some, asB_b]
    by_cases hw : w = .set_
    · subst hw
      obtain ⟨x, rfl, hx, hk2⟩ := f.set_inv
      simp only [decide_true, evAnd_one, evE_cmp, evE_idx, evE_var, evE_cst, Ct_int, Ok_bind, List.getElem?_cons_zero, List.getElem?_cons_succ, rd2_d, i_tup, List.cons_append, atI_1, opt_some, Ok_ok, in_strs, opB_some, asB_b]
      refine ⟨_, rfl, fun hb => ?_, fun hb => x_nil (two fun y _ e => by cases e; exact of_decide_eq_false hb)⟩
      refine xB (x_ret ?_)
      simp only [evE_cst, Ct_bl, Ok_ok, fin_d, take_same rfl]
      exact ⟨⟨_, rfl, fun h => by cases h⟩, True.intro⟩
    · simp only [hw, decide_false, Ok_ok]
      exact ⟨_, rfl, (fun hb => by cases hb), fun hb => x_nil (two fun _ h => absurd h hw)⟩
end
end Mp
-- Ev10
set_option Elab.async false
set_option linter.all false
set_option maxRecDepth 100000
set_option maxHeartbeats 2000000
namespace Mp
open PySem L2
/-! ### the world -/
def fnD (f : Str × Int) : PyData := .tuple [.str f.1, .int f.2]
structure Wld where
  ns : List Str
  ls : List Str
  fs : List (Str × Int)
  wl : List (Key × PyData)
  sd : List PyData
def worldD (w : Wld) (room toil : Int) : List (Key × PyData) := [(.inr "names", .list (w.ns.map .str)), (.inr "lets", .list (w.ls.map .str)), (.inr "functions", .list (w.fs.map fnD)), (.inr "works", .dict (reK w.wl)), (.inr "seeds", .list w.sd), (.inr "room", .int room), (.inr "toil", .int toil), (.inr "takes", .bool true)]
structure WOk (cs : Str → Nat → Prop) (D : Nat) (w : Wld) : Prop where
  ns : ∀ x ∈ w.ns, Nw x
  n0 : w.ns ≠ []
  nl : w.ns.length ≤ 100
  ls : ∀ x ∈ w.ls, Nw x
  ll : w.ls.length ≤ 100
  fs : ∀ f ∈ w.fs, cs f.1 f.2.toNat ∧ Nw f.1 ∧ 0 ≤ f.2 ∧ f.2 ≤ 6
  fl : w.fs.length ≤ 100
  wl : Wks cs w.wl
  sd : ∀ e ∈ w.sd, Tr cs D e
  sl : w.sd.length ≤ 100
  D0 : 1 ≤ D
  D1 : D ≤ 10
def Wd (R : Nat) (w : Wld) (m : Mem) (kw : Nat) : Prop := ∃ room toil : Int, m[kw]? = some (.dct (worldD w room toil)) ∧ room ≤ R
section
variable {w : Wld} {a b : Int} {m m1 : Mem} {kw R : Nat}
theorem wd_names : idxop (.dict (reK (worldD w a b))) (.str "names") = some (.list (w.ns.map .str)) := by rfl
theorem wd_lets : idxop (.dict (reK (worldD w a b))) (.str "lets") = some (.list (w.ls.map .str)) := by rfl
theorem wd_functions : idxop (.dict (reK (worldD w a b))) (.str "functions") = some (.list (w.fs.map fnD)) := by rfl
theorem wd_works : idxop (.dict (reK (worldD w a b))) (.str "works") = some (.dict (reK w.wl)) := by rfl
theorem wd_seeds : idxop (.dict (reK (worldD w a b))) (.str "seeds") = some (.list w.sd) := by rfl
theorem wd_room : idxop (.dict (reK (worldD w a b))) (.str "room") = some (.int a) := by rfl
theorem wd_toil : idxop (.dict (reK (worldD w a b))) (.str "toil") = some (.int b) := by rfl
theorem wd_takes : idxop (.dict (reK (worldD w a b))) (.str "takes") = some (.bool true) := by rfl
theorem wd_proom {x : Int} : putKK (worldD w a b) (.inr "room") (.int x) = worldD w x b := by rfl
theorem wd_ptoil {x : Int} : putKK (worldD w a b) (.inr "toil") (.int x) = worldD w a x := by rfl
theorem wd_pseeds {x : List PyData} : putKK (worldD w a b) (.inr "seeds") (.list x) = worldD { w with sd := x } a b := by rfl
theorem wd_len : (worldD w a b).length < sizeLine := by show 8 < 2 ^ 24; decide
theorem Wd.of (h : Wd R w m kw) (e : m1[kw]? = m[kw]?) : Wd R w m1 kw := by
  obtain ⟨r, t, h1, h2⟩ := h
  exact ⟨r, t, e.trans h1, h2⟩
theorem Wd.up {R' : Nat} (h : Wd R w m kw) (hr : R ≤ R') : Wd R' w m kw := by
  obtain ⟨r, t, h1, h2⟩ := h
  exact ⟨r, t, h1, by omega⟩
theorem Wd.lt (h : Wd R w m kw) : kw < m.length := by
  obtain ⟨r, t, h1, h2⟩ := h
  exact lt_of_at h1
theorem Wd.frm (h : Wd R w m kw) {S : List Nat} (f : Frm S m m1) (hk : kw ∉ S) : Wd R w m1 kw := h.of (f.2 _ hk)
end
theorem low_add {xs ys : List Str} (hx : ∀ x ∈ xs, Nw x) (hy : ∀ x ∈ ys, Nw x) : ∀ x ∈ xs ++ ys, Nw x := fun x h => (List.mem_append.mp h).elim (hx x) (hy x)
local macro_rules
  | `(tactic| trivial) => `(tactic| simp only [evE_var, evE_cst, evE_bin, evE_neg, evE_cmp, evE_and, evE_or, evE_not, evE_ite, evE_tup, evE_lst, evE_dic, evE_idx, evE_slf, evE_slt, evE_sl2, evE_call, evE_isi, evE_blt, evE_mth, evL_nil, evL_cons, evAnd_one, evAnd_cons, evOr_one, evOr_cons, evS_sti, evS_app, evS_ext, evS_unp,
    Ok_bind, Ok_ok, bind_ok, Ct_non, Ct_bl, Ct_int, Ct_str, List.getElem?_cons_zero, List.getElem?_cons_succ, List.set_cons_zero, List.set_cons_succ, rd2, rd_d, rd2_d, opt_some, opB_some, asB_b, fz_d, fzL_nil, fzL_cons, mkl_f, mkl_t, outM_val, outM_lst, outM_dct, b_add, b_sub, b_mod, b_fdiv, b_mul_l, b_mul_r, c_lt, c_le, c_gt, c_ge, c_eqi, c_eqs, c_nes, Int.reduceLT, Int.reduceLE, bl_lenl, bl_lent, bl_lens, bl_tupl, bl_tupt, bl_lstl, bl_lstt, bl_stri, bl_strs, bl_intb, i_list, i_tup, atI_0, atI_1, atI_2, atI_3, sl_list, sl_tup, sl_str, isiop, negop, in_strs, nin_strs, lit_take, lit_num, lit_name, lit_op, lit_pick, lit_let, lit_set, lit_say, lit_do, lit_again, lit_call, W.s_inj, reduceCtorEq, kOf, and_self, true_and, and_true, ite_true, ite_false, if_true, if_false, Bool.true_or, Bool.or_true, Bool.false_or, Bool.or_false, Bool.not_true, Bool.not_false, decide_true, decide_false, Option.map_some, *])

section
variable {T : Str → Option Fn} {cs : Str → Nat → Prop} {L : Nat} {c : Int} {m : Mem} {kf kw : Nat}
theorem draw_L {many : Int} (hL : 1 ≤ L) (hT : T "_law_draw" = some F_law_draw) (hm : Fd c m kf) (h1 : 0 < many) (h2 : many < 1073741824) (hc : c + 1 ≤ 2 ^ 62) : Ok (callN T L "_law_draw" [.r kf, .d (.int many)] m) (drawQ c many m kf) := by
  obtain ⟨n, rfl⟩ : ∃ n, L = n + 1 := ⟨L - 1, by omega⟩
  exact draw_ok hT hm h1 h2 hc
theorem value_L (hL : 2 ≤ L) (hD : T "_law_draw" = some F_law_draw) (hT : T "_law_value" = some F_law_value) (hm : Fd c m kf) (hc : c + 3 ≤ 2 ^ 62) : Ok (callN T L "_law_value" [.r kf] m) (valQ c m kf) := by
  obtain ⟨n, rfl⟩ : ∃ n, L = n + 2 := ⟨L - 2, by omega⟩
  exact value_ok hD hT hm hc
def leafQ (cs : Str → Nat → Prop) (bs : List Str) (c : Int) (m : Mem) (kf : Nat) (v : Vl) (m' : Mem) : Prop := ∃ e, v = .d e ∧ Gd cs 1 bs e ∧ cnt e = 1 ∧ Fd c m' kf ∧ Frm [kf] m m'
theorem tr_leaf {w : W} {as : List PyData} {bs : List Str} (f : Form cs w as 0) : Gd cs 1 bs (.tuple (.str w.s :: as)) ∧ cnt (.tuple (.str w.s :: as)) = 1 := by
  have q : Gd cs 1 bs (.tuple (.str w.s :: (as ++ []))) := .mk (ks := []) f (fun x h _ => by subst h; cases f) fun i a h => by simp at h
  rw [List.append_nil] at q
  refine ⟨q, ?_⟩
  have es : cnt (.str w.s) = 0 := by rw [cnt]; intro xs h; cases h
  have e0 : cntL as = 0 := by
    have : ∀ l : List PyData, (∀ a ∈ l, cnt a = 0) → cntL l = 0 := by
      intro l
      induction l with
      | nil => intro _; rfl
      | cons x l ih => intro h; rw [cntL, h x List.mem_cons_self, ih fun y hy => h y (List.mem_cons_of_mem _ hy)]
    exact this as fun a ha => (f.flat a ha).2.2
  rw [cnt, cntL, es, e0]
theorem leaf_ok {D R : Nat} {w : Wld} {bs : List Str} (hL : 3 ≤ L) (hD : T "_law_draw" = some F_law_draw) (hV : T "_law_value" = some F_law_value) (hT : T "_law_leaf" = some F_law_leaf) (hm : Fd c m kf) (hw : Wd R w m kw) (ne : kw ≠ kf) (ok : WOk cs D w) (hb : ∀ x ∈ bs, Nw x) (hbl : bs.length ≤ 1000) (hc : c + 4 ≤ 2 ^ 62) :
    Ok (callN T L "_law_leaf" [.r kf, .r kw, .d (.list (bs.map .str))] m) (leafQ cs bs (c + 4) m kf) := by
  obtain ⟨n, rfl⟩ : ∃ n, L = n + 1 := ⟨L - 1, by omega⟩
  refine call_ok hT rfl ?_
  show Ok (evB (callN T n) F_law_leaf.body [some (.r kf), some (.r kw), some (.d (.list (bs.map .str))), none, none] m) fun fl m1 => Ok (fin false m.length fl m1) _
  refine xB (x_asg ?_)
  simp only [evE_call, evL_cons, evL_nil, evE_var, evE_cst, Ct_int, Ok_bind, Ok_ok, List.getElem?_cons_succ, List.getElem?_cons_zero, bind_ok]
  refine (draw_L (by omega) hD hm (by decide) (by decide) (by omega)).mono ?_
  rintro v m1 ⟨way, rfl, way0, way1, hm1, fr1⟩
  obtain ⟨room, toil, hw1, hr⟩ := hw.frm fr1 (by simpa using ne)
  have hk1 := rd_at hw1
  have two : Ok (evB (callN T n) (F_law_leaf.body.tl 2) [some (.r kf), some (.r kw), some (.d (.list (bs.map .str))), some (.d (.int way)), none] m1) fun fl m1 => Ok (fin false m.length fl m1) (leafQ cs bs (c + 4) m kf) := by
    refine xB (x_asg ?_)
    have e1 : w.ns.map PyData.str ++ bs.map .str = (w.ns ++ bs).map .str := by simp
    have e2 : (w.ns ++ bs).map PyData.str ++ bs.map .str = (w.ns ++ bs ++ bs).map .str := by simp
    have hnl := ok.nl
    have hall : ∀ x ∈ w.ns ++ bs ++ bs, Nw x := low_add (low_add ok.ns hb) hb
    simp only [evE_bin, evE_idx, evE_var, evE_cst, Ct_str, Ok_bind, Ok_ok, List.getElem?_cons_succ, List.getElem?_cons_zero, List.set_cons_succ, List.set_cons_zero, rd2, hk1, rd_d, wd_names, opt_some, b_addl (small (show (w.ns.map PyData.str).length + (bs.map PyData.str).length ≤ 1000000 by simp; omega)), e1, b_addl (small (show ((w.ns ++ bs).map PyData.str).length + (bs.map PyData.str).length ≤ 1000000 by simp; omega)), e2]
    have hne : (w.ns ++ bs ++ bs) ≠ [] := by have := ok.n0; simp [this]
    generalize hso : w.ns ++ bs ++ bs = so at hall hne
    have hsl : so.length ≤ 2100 := by rw [← hso]; simp; omega
    have hsh : Shp (so.map .str) := .strs fun x h => (hall x h).1.1
    refine xB (x_ife ?_)
    have cnd : Ok (evE (callN T n) (.or (.cons (.cmp .lt (.var 3) (.cst (.int 3))) (.cons (.cmp .eq (.var 4) (.lst false .nil)) .nil))) [some (.r kf), some (.r kw), some (.d (.list (bs.map .str))), some (.d (.int way)), some (.d (.list (so.map .str)))] m1) fun v m2 => m2 = m1 ∧ v = .d (.bool (decide (way < 3))) := by
      simp only [evE_or, evOr_cons, evOr_one, evE_cmp, evE_var, evE_cst, Ct_int, evE_lst, evL_nil, fzL_nil, mkl_f, Ok_bind, Ok_ok, List.getElem?_cons_succ, List.getElem?_cons_zero, rd2_d, c_lt, opB_some, asB_b, bind_ok]
      by_cases hlt : way < 3
      · simp only [hlt, decide_true, Ok_ok, and_self]
      · have hem : (so.map PyData.str).isEmpty = false := by cases so <;> first | exact absurd rfl hne | rfl
        simp only [hlt, decide_false, evE_cmp, evE_var, evE_lst, evL_nil, fzL_nil, mkl_f, Ok_bind, Ok_ok, List.getElem?_cons_succ, List.getElem?_cons_zero, rd2_d, eq_nil hsh, hem, opB_some, asB_b, and_self, bind_ok]
    refine cnd.mono ?_
    rintro v m2 ⟨rfl, rfl⟩
    refine ⟨_, rfl, fun h => ?_, fun h => x_nil ?_⟩
    · refine xB (x_ret ?_)
      simp only [evE_tup, evL_cons, evL_nil, evE_cst, Ct_str, evE_call, evE_var, Ok_bind, Ok_ok, List.getElem?_cons_succ, List.getElem?_cons_zero, bind_ok]
      refine (value_L (by omega) hD hV hm1 (by omega)).mono ?_
      rintro v m3 ⟨i, rfl, i0, i1, hm3, fr3⟩
      simp only [fzL_cons, fzL_nil, fz_d, bind_ok, Ok_bind, Ok_ok, fin_d, take_same (fr1.trans fr3).1, lit_num]
      obtain ⟨q1, q2⟩ := tr_leaf (cs := cs) (bs := bs) (.num i i0 i1)
      exact ⟨_, rfl, q1, q2, hm3.weak (by omega) (by omega), fr1.trans fr3⟩
    · refine xB (x_ret ?_)
      simp only [evE_tup, evL_cons, evL_nil, evE_cst, Ct_str, evE_idx, evE_call, evE_blt, evE_var, Ok_bind, Ok_ok, List.getElem?_cons_succ, List.getElem?_cons_zero, bind_ok, rd_d, bl_lenl, outM_val]
      have hl0 : 0 < so.length := by cases so <;> first | exact absurd rfl hne | simp
      refine (draw_L (by omega) hD hm1 (by simp; omega) (by simp; omega) (by omega)).mono ?_
      rintro v m3 ⟨i, rfl, i0, i1, hm3, fr3⟩
      obtain ⟨z, ez, hzm⟩ := atI_in (xs := so.map PyData.str) i0 i1
      obtain ⟨x, hx, rfl⟩ := List.mem_map.mp hzm
      simp only [rd2_d, i_list, ez, opt_some, Ok_ok, fzL_cons, fzL_nil, fz_d, bind_ok, Ok_bind, fin_d, take_same (fr1.trans fr3).1, lit_name]
      obtain ⟨q1, q2⟩ := tr_leaf (cs := cs) (bs := bs) (.name x (hall x hx))
      exact ⟨_, rfl, q1, q2, hm3.weak (by omega) (by omega), fr1.trans fr3⟩
  refine xB (x_ife ?_)
  simp only [evE_and, evAnd_cons, evAnd_one, evE_cmp, evE_idx, evE_var, evE_cst, Ct_str, Ct_int, Ok_bind, Ok_ok, List.getElem?_cons_succ, List.getElem?_cons_zero, List.set_cons_succ, List.set_cons_zero, rd2_d, c_eqi, opB_some, asB_b]
  by_cases hz : way = 0
  · simp only [hz, decide_true, evAnd_one, evE_idx, evE_var, evE_cst, Ct_str, Ok_bind, Ok_ok, List.getElem?_cons_succ, List.getElem?_cons_zero, rd2, hk1, rd_d, wd_takes, opt_some, asB_b]
    refine ⟨_, rfl, fun h => ?_, fun h => by cases h⟩
    refine xB (x_ret ?_)
    simp only [evE_tup, evL_cons, evL_nil, evE_cst, Ct_str, Ok_bind, Ok_ok, bind_ok, fzL_cons, fzL_nil, fz_d, fin_d, take_same fr1.1, lit_take]
    obtain ⟨q1, q2⟩ := tr_leaf (cs := cs) (bs := bs) .take
    exact ⟨_, rfl, q1, q2, hm1.weak (by omega) (by omega), fr1⟩
  · simp only [hz, decide_false, Ok_ok]
    exact ⟨_, rfl, (fun h => by cases h), fun h => x_nil two⟩
end
end Mp
-- Ev11
set_option Elab.async false
set_option linter.all false
set_option maxRecDepth 100000
set_option maxHeartbeats 2000000
namespace Mp
open PySem L2
theorem cutL_2 {α : Type} (x y : α) (xs : List α) : cutL (x :: y :: xs) (some 2) none = xs := by
  unfold cutL
  rw [show (some (2 : Int)) = some ((2 : Nat) : Int) from rfl, HT.sIx_nat, HT.sIx_none]
  rw [Nat.min_eq_left (by simp)]
  simp
theorem in_tup {y : Str} {xs : List Str} : cmpop .inn (.str y) (.tuple (xs.map .str)) = some (decide (y ∈ xs)) := by
  simp only [cmpop]
  show (if flatD (.str y) && (xs.map PyData.str).all flatD then some ((xs.map PyData.str).any fun z => PyData.eqv z (.str y)) else none) = _
  rw [all_flat, any_str]
  rfl
theorem W.s_iff {a b : W} : a.s = b.s ↔ a = b := by
  have := W.s_inj a b
  by_cases h : a.s = b.s
  · simp only [h, decide_true] at this
    exact ⟨fun _ => of_decide_eq_true this.symm, fun _ => h⟩
  · simp only [h, decide_false] at this
    exact ⟨fun q => absurd q h, fun q => absurd q (of_decide_eq_false this.symm)⟩
theorem in_ns (w : W) : cmpop .inn (.str w.s) (.tuple [.str (W.s .name_), .str (W.s .set_)]) = some (decide (w = .name_ ∨ w = .set_)) := by
  have := in_tup (y := w.s) (xs := [W.s .name_, W.s .set_])
  rw [show ([W.s .name_, W.s .set_] : List Str).map PyData.str = [.str (W.s .name_), .str (W.s .set_)] from rfl] at this
  rw [this]
  congr 1
  simp only [List.mem_cons, List.not_mem_nil, or_false, W.s_iff]
theorem index_at {x : Str} {xs : List Str} (h : x ∈ xs) : ∃ j : Nat, j < xs.length ∧ indexop (.list (xs.map .str)) [.str x] = some (.int (j : Int)) := by
  show ∃ j : Nat, j < xs.length ∧ (if flatD (.str x) && (xs.map PyData.str).all flatD then ((xs.map PyData.str).findIdx? fun y => PyData.eqv y (.str x)).map fun j => PyData.int (j : Nat) else none) = some (.int (j : Int))
  rw [all_flat]
  rw [if_pos (show (flatD (.str x) && true) = true from rfl)]
  cases e : (xs.map PyData.str).findIdx? fun y => PyData.eqv y (.str x) with
  | none =>
    rw [List.findIdx?_eq_none_iff] at e
    have := e (.str x) (List.mem_map_of_mem h)
    rw [PyData.eqv] at this
    simp at this
  | some j =>
    rw [List.findIdx?_eq_some_iff_getElem] at e
    obtain ⟨hj, _⟩ := e
    exact ⟨j, by simpa using hj, rfl⟩
theorem paired_all {P : PyData → PyData → Prop} {Q : PyData → Prop} : ∀ {xs ds : List PyData}, Paired P xs ds → (∀ x ∈ xs, ∀ d, P x d → Q d) → (∀ d ∈ ds, Q d) ∧ ds.length = xs.length
  | _, _, .nil, _ => ⟨fun _ h => by (cases h), rfl⟩
  | _, _, .cons (a := x) (b := d) a t, h => by
    obtain ⟨h1, h2⟩ := paired_all t fun x hx => h x (List.mem_cons_of_mem _ hx)
    refine ⟨fun e he => ?_, by simp [h2]⟩
    rcases List.mem_cons.mp he with rfl | he
    · exact h x List.mem_cons_self _ a
    · exact h1 e he
theorem mem_last {m m3 : Mem} {c c' : Cell} (h1 : m3[m.length]? = some c') (h2 : m3.length = (m ++ [c]).length) (h3 : ∀ j, j ≠ m.length → m3[j]? = (m ++ [c])[j]?) : m3 = m ++ [c'] := by
  apply List.ext_getElem?
  intro j
  by_cases hj : j = m.length
  · subst hj; rw [h1, at_last]
  · rw [h3 j hj]
    rcases Nat.lt_or_ge j m.length with q | q
    · rw [List.getElem?_append_left q, List.getElem?_append_left q]
    · rw [List.getElem?_eq_none (by simp; omega), List.getElem?_eq_none (by simp; omega)]
local macro_rules
  | `(tactic| trivial) => `(tactic| simp only [evE_var, evE_cst, evE_bin, evE_neg, evE_cmp, evE_and, evE_or, evE_not, evE_ite, evE_tup, evE_lst, evE_dic, evE_idx, evE_slf, evE_slt, evE_sl2, evE_call, evE_isi, evE_blt, evE_mth, evL_nil, evL_cons, evAnd_one, evAnd_cons, evOr_one, evOr_cons, evS_sti, evS_app, evS_ext, evS_unp,
    Ok_bind, Ok_ok, bind_ok, Ct_non, Ct_bl, Ct_int, Ct_str, List.getElem?_cons_zero, List.getElem?_cons_succ, List.set_cons_zero, List.set_cons_succ, rd2, rd_d, rd2_d, opt_some, opB_some, asB_b, fz_d, fzL_nil, fzL_cons, mkl_f, mkl_t, outM_val, outM_lst, outM_dct, b_add, b_sub, b_mod, b_fdiv, b_mul_l, b_mul_r, c_lt, c_le, c_gt, c_ge, c_eqi, c_eqs, c_nes, Int.reduceLT, Int.reduceLE, bl_lenl, bl_lent, bl_lens, bl_tupl, bl_tupt, bl_lstl, bl_lstt, bl_stri, bl_strs, bl_intb, i_list, i_tup, atI_0, atI_1, atI_2, atI_3, sl_list, sl_tup, sl_str, isiop, negop, in_strs, nin_strs, lit_take, lit_num, lit_name, lit_op, lit_pick, lit_let, lit_set, lit_say, lit_do, lit_again, lit_call, W.s_inj, reduceCtorEq, kOf, and_self, true_and, and_true, ite_true, ite_false, if_true, if_false, Bool.true_or, Bool.or_true, Bool.false_or, Bool.or_false, Bool.not_true, Bool.not_false, decide_true, decide_false, Option.map_some, *])

section
variable {T : Str → Option Fn} {cs : Str → Nat → Prop} {L : Nat} {m : Mem}
theorem turned_ok {ns os : List Str} (hP : T "_law_parts" = some F_law_parts) (hW : T "_law_with" = some F_law_with) (hT : T "_law_turned" = some F_law_turned) (hl : ns.length = os.length) (ho : ∀ x ∈ os, Nw x) : ∀ (d n : Nat) (e : PyData) (m : Mem), Tr cs d e →
    Ok (callN T (n + d + 1) "_law_turned" [.d e, .d (.list (ns.map .str)), .d (.list (os.map .str))] m) fun v m' => (∃ e', v = .d e' ∧ Tr cs d e') ∧ m' = m
  | 0, n, e, m, h => by cases h
  | d + 1, n, e, m, h => by
    cases h with
    | @mk w as ks _ f hk =>
    refine call_ok hT rfl ?_
    show Ok (evB (callN T (n + d + 1)) F_law_turned.body [some (.d (.tuple (.str w.s :: (as ++ ks)))), some (.d (.list (ns.map .str))), some (.d (.list (os.map .str))), none] m) fun fl m1 => Ok (fin false m.length fl m1) _
    have two : ∀ as, Form cs w as ks.length → Ok (evB (callN T (n + d + 1)) (F_law_turned.body.tl 1) [some (.d (.tuple (.str w.s :: (as ++ ks)))), some (.d (.list (ns.map .str))), some (.d (.list (os.map .str))), none] m) fun fl m1 => Ok (fin false m.length fl m1) fun v m' => (∃ e', v = .d e' ∧ Tr cs (d + 1) e') ∧ m' = m := by
      intro as f
      obtain ⟨w', as', ks', d', hd, he, _, _, hp⟩ := (Tr.mk f hk).parts (n := n + d) hP
      have hks : ks' = ks := by
        have q1 := (filt_as (as := as) (ks := ks) (fun a ha => (f.flat a ha).1) fun a ha => (hk a ha).isT.1).1
        have p2 := parts_pu (n := n + d) (x := .str w.s) (xs := as ++ ks) hP fun a ha => (List.mem_append.mp ha).elim (fun z => (f.flat a z).2.1) fun z => (hk a z).isT.2
        rw [q1] at p2
        have e1 := hp m
        rw [p2 m] at e1
        cases e1
        rfl
      subst hks
      refine xB (x_ret ?_)
      rw [evE_call, Ok_bind, evL_cons, Ok_bind, evE_var]
      show Ok (R.ok (Vl.d (.tuple (.str w.s :: (as ++ ks')))) m) _
      rw [Ok_ok, Ok_bind, evL_cons, Ok_bind]
      refine x_lcE (fun _ d' => Tr cs d d') ?_
      simp only [evI_e, evE_call, evL_cons, evL_nil, evE_var, Ok_bind, Ok_ok, bind_ok, List.getElem?_cons_zero, List.getElem?_cons_succ]
      refine hp.ok ?_
      simp only [fz_d, Ok_ok]
      refine .of ⟨fun a ha acc => ⟨_, rfl, ?_⟩, ?_⟩
      · show Ok (R.ok (Vl.d a) (m ++ [Cell.lst acc])) _
        rw [Ok_ok]
        show Ok (R.ok (Vl.d (.list (ns.map .str))) (m ++ [Cell.lst acc])) _
        rw [Ok_ok]
        show Ok (R.ok (Vl.d (.list (os.map .str))) (m ++ [Cell.lst acc])) _
        rw [Ok_ok]
        refine (turned_ok hP hW hT hl ho d n a _ (hk a ha)).mono ?_
        rintro v m2 ⟨⟨e', rfl, he'⟩, rfl⟩
        exact ⟨_, rfl, he', rfl⟩
      · intro ds hds
        obtain ⟨h1, h2⟩ := paired_all hds (Q := Tr cs d) fun x _ d h => h
        simp only [Bool.false_eq_true, if_false, evL_nil, Ok_bind, Ok_ok, bind_ok]
        have h7 := f.small
        refine with_ok (n := n + d) (xs := .str w.s :: (as ++ ks')) (ys := ds) hW (fun a ha => ?_) rfl (fun _ => rfl) (by simp; omega) (by omega) ?_
        · rcases List.mem_cons.mp ha with rfl | ha
          · rfl
          · exact (List.mem_append.mp ha).elim (fun z => (f.flat a z).2.1) fun z => (hk a z).isT.2
        · simp only [fin_d, Ok_ok, take_same rfl]
          refine ⟨⟨_, rfl, ?_⟩, True.intro⟩
          have e1 : (PyData.str w.s :: (as ++ ks')).filter (fun a => !isT a) = .str w.s :: as := by
            rw [List.filter_cons]
            show PyData.str w.s :: List.filter (fun a => !isT a) (as ++ ks') = _
            rw [(filt_as (fun a ha => (f.flat a ha).1) fun a ha => (hk a ha).isT.1).2]
          rw [e1, List.cons_append]
          exact .mk (by rw [h2]; exact f) h1
    refine xB (x_ife ?_)
    simp only [evE_and, evAnd_cons, evAnd_one, evE_cmp, evE_idx, evE_tup, evL_cons, evL_nil, evE_var, evE_cst, Ct_str, Ct_int, fzL_cons, fzL_nil, fz_d, bind_ok, Ok_bind, Ok_ok, List.getElem?_cons_zero, List.getElem?_cons_succ, rd2_d, i_tup, atI_0, opt_some, lit_name, lit_set, in_ns, opB_some, asB_b]
    by_cases hw : w = .name_ ∨ w = .set_
    · obtain ⟨x, rfl, hx, go⟩ : ∃ x, as = [.str x] ∧ Nw x ∧ ∀ y, Nw y → Form cs w [.str y] ks.length := by
        rcases hw with rfl | rfl
        · obtain ⟨x, rfl, hx, e⟩ := f.name_inv
          exact ⟨x, rfl, hx, fun y hy => by rw [e]; exact .name y hy⟩
        · obtain ⟨x, rfl, hx, e⟩ := f.set_inv
          exact ⟨x, rfl, hx, fun y hy => by rw [e]; exact .set y hy⟩
      have t1 := two [.str x] f
      simp only [List.cons_append, List.nil_append] at t1 ⊢
      simp only [hw, decide_true, evAnd_one, evE_cmp, evE_idx, evE_var, evE_cst, Ct_int, Ok_bind, List.getElem?_cons_zero, List.getElem?_cons_succ, rd2_d, i_tup, atI_1, opt_some, Ok_ok, in_strs, opB_some, asB_b]
      refine ⟨_, rfl, fun hb => ?_, fun hb => x_nil t1⟩
      have hb := of_decide_eq_true hb
      obtain ⟨j, hj, ej⟩ := index_at hb
      obtain ⟨z, ez, hzm⟩ := atI_in (xs := os.map PyData.str) (i := (j : Int)) (by omega) (by simp; omega)
      obtain ⟨y, hy, rfl⟩ := List.mem_map.mp hzm
      have h7 := f.small
      have mk : mtK .index m (.d (.list (ns.map .str))) = true := rfl
      have mo : mthop .index (.list (ns.map .str)) [.str x] = some (.int (j : Int)) := ej
      refine xB (x_asg ?_)
      simp only [evE_bin, evE_tup, evL_cons, evL_nil, evE_idx, evE_slf, evE_mth, evE_var, evE_cst, Ct_int, fzL_cons, fzL_nil, fz_d, bind_ok, Ok_bind, Ok_ok, List.getElem?_cons_zero, List.getElem?_cons_succ, List.set_cons_zero, rd2_d, rd_d, i_tup, i_list, List.nil_append, atI_0, atI_1, opt_some, mk, mo, ez, sl_tup, cutL_2, b_addt (small (show ([PyData.str w.s, PyData.str y] : List PyData).length + ks.length ≤ 1000000 by simp; omega))]
      exact x_nil (two [.str y] (go y (ho y hy)))
    · simp only [hw, decide_false, Ok_ok]
      exact ⟨_, rfl, (fun hb => by cases hb), fun hb => x_nil (two _ f)⟩
end
end Mp
-- Ev12
set_option Elab.async false
set_option linter.all false
set_option maxRecDepth 100000
set_option maxHeartbeats 2000000
namespace Mp
open PySem L2
local macro_rules
  | `(tactic| trivial) => `(tactic| simp only [evE_var, evE_cst, evE_bin, evE_neg, evE_cmp, evE_and, evE_or, evE_not, evE_ite, evE_tup, evE_lst, evE_dic, evE_idx, evE_slf, evE_slt, evE_sl2, evE_call, evE_isi, evE_blt, evE_mth, evL_nil, evL_cons, evAnd_one, evAnd_cons, evOr_one, evOr_cons, evS_sti, evS_app, evS_ext, evS_unp,
    Ok_bind, Ok_ok, bind_ok, Ct_non, Ct_bl, Ct_int, Ct_str, List.getElem?_cons_zero, List.getElem?_cons_succ, List.set_cons_zero, List.set_cons_succ, rd2, rd_d, rd2_d, opt_some, opB_some, asB_b, fz_d, fzL_nil, fzL_cons, mkl_f, mkl_t, outM_val, outM_lst, outM_dct, b_add, b_sub, b_mod, b_fdiv, b_mul_l, b_mul_r, c_lt, c_le, c_gt, c_ge, c_eqi, c_eqs, c_nes, Int.reduceLT, Int.reduceLE, bl_lenl, bl_lent, bl_lens, bl_tupl, bl_tupt, bl_lstl, bl_lstt, bl_stri, bl_strs, bl_intb, i_list, i_tup, atI_0, atI_1, atI_2, atI_3, sl_list, sl_tup, sl_str, isiop, negop, in_strs, nin_strs, lit_take, lit_num, lit_name, lit_op, lit_pick, lit_let, lit_set, lit_say, lit_do, lit_again, lit_call, W.s_inj, reduceCtorEq, kOf, and_self, true_and, and_true, ite_true, ite_false, if_true, if_false, Bool.true_or, Bool.or_true, Bool.false_or, Bool.or_false, Bool.not_true, Bool.not_false, decide_true, decide_false, Option.map_some, *])

section
variable {T : Str → Option Fn} {cs : Str → Nat → Prop} {L : Nat} {m : Mem}
theorem parts_raw {n : Nat} {x : PyData} {xs : List PyData} {m : Mem} {Q : Vl → Mem → Prop} (hT : T "_law_parts!" = some F_law_parts_r) (h : ∀ a ∈ xs, notD a = true) (hQ : Q (.r m.length) (m ++ [.lst (xs.filter isT)])) : Ok (callN T (n + 1) "_law_parts!" [.d (.tuple (x :: xs))] m) Q := by
  refine call_ok hT rfl ?_
  show Ok (evB (callN T n) F_law_parts_r.body [some (.d (.tuple (x :: xs))), none] m) fun fl m1 => Ok (fin true m.length fl m1) _
  refine xB (x_ret (x_lci (fun x => if isT x then some x else none) ?_))
  simp only [evI_e, evE_slf, evE_var, evE_cst, Ct_int, Ok_bind, Ok_ok, bind_ok, List.getElem?_cons_zero, rd_d, sl_tup, cutL_from, opt_some, fz_d]
  refine .of ⟨fun a ha acc => ⟨_, rfl, ?_⟩, ?_⟩
  · show Ok (evE (callN T n) (.isi (.var 1) .tuple) [some (Vl.d (PyData.tuple (x :: xs))), some (.d a)] _) _
    simp only [evE_isi, evE_var, List.getElem?_cons_succ, List.getElem?_cons_zero, Ok_bind, Ok_ok, rd_d, isi_tup (h a ha), opB_some]
    refine ⟨True.intro, _, rfl, fun hb => by rw [hb]; rfl, fun hb => ?_⟩
    show Ok (evE (callN T n) (.var 1) [some (Vl.d (PyData.tuple (x :: xs))), some (.d a)] _) _
    simp only [evE_var, List.getElem?_cons_succ, List.getElem?_cons_zero, Ok_ok]
    exact ⟨a, rfl, by rw [hb]; rfl, True.intro⟩
  · rw [fm_filter]
    simp only [if_true]
    rw [fin_r (Nat.le_refl _) at_last, Ok_ok, List.take_left' rfl]
    exact hQ
theorem spoilt_ok {leaf : PyData} (hl : Tr cs 1 leaf) (hP : T "_law_parts" = some F_law_parts) (hR : T "_law_parts!" = some F_law_parts_r) (hW : T "_law_with" = some F_law_with) (hN : T "_law_nodes" = some F_law_nodes) (hT : T "_law_spoilt" = some F_law_spoilt) : ∀ (d n : Nat) (e : PyData) (at_ : Int) (m : Mem), Tr cs d e →
    Ok (callN T (n + d + 1) "_law_spoilt" [.d e, .d (.int at_), .d leaf] m) fun v m' => (∃ e', v = .d e' ∧ Tr cs d e') ∧ m' = m
  | 0, n, e, at_, m, h => by cases h
  | d + 1, n, e, at_, m, h => by
    cases h with
    | @mk w as ks _ f hk =>
    refine call_ok hT rfl ?_
    show Ok (evB (callN T (n + d + 1)) F_law_spoilt.body [some (.d (.tuple (.str w.s :: (as ++ ks)))), some (.d (.int at_)), some (.d leaf), none, none, none] m) fun fl m1 => Ok (fin false m.length fl m1) _
    have hnd : ∀ a ∈ as ++ ks, notD a = true := fun a ha => (List.mem_append.mp ha).elim (fun z => (f.flat a z).2.1) fun z => (hk a z).isT.2
    have hfl := filt_as (as := as) (ks := ks) (fun a ha => (f.flat a ha).1) fun a ha => (hk a ha).isT.1
    have h7 := f.small
    refine xB (x_ife ?_)
    simp only [evE_cmp, evE_var, evE_cst, Ct_int, Ok_bind, Ok_ok, List.getElem?_cons_zero, List.getElem?_cons_succ, rd2_d, c_eqi, opB_some]
    refine ⟨_, rfl, fun hb => ?_, fun hb => x_nil ?_⟩
    · refine xB (x_ret ?_)
      simp only [evE_var, List.getElem?_cons_zero, List.getElem?_cons_succ, Ok_ok, fin_d, take_same rfl]
      exact ⟨⟨_, rfl, hl.mono (fun _ _ h => h) (by omega)⟩, True.intro⟩
    · show Ok (evB (callN T (n + d + 1)) (F_law_spoilt.body.tl 1) [some (.d (.tuple (.str w.s :: (as ++ ks)))), some (.d (.int at_)), some (.d leaf), none, none, none] m) _
      generalize hE : PyData.tuple (.str w.s :: (as ++ ks)) = E
      refine xB (x_asg ?_)
      simp only [evE_call, evL_cons, evL_nil, evE_var, Ok_bind, Ok_ok, bind_ok, List.getElem?_cons_zero]
      rw [← hE]
      refine parts_raw hR hnd ?_
      rw [hfl.1, hE]
      refine xB (x_asg ?_)
      simp only [evE_bin, evE_var, evE_cst, Ct_int, Ok_bind, Ok_ok, List.getElem?_cons_zero, List.getElem?_cons_succ, List.set_cons_succ, List.set_cons_zero, rd2_d, b_sub, opt_some]
      refine xB (x_rng ?_)
      simp only [evE_blt, evE_var, Ok_bind, Ok_ok, List.getElem?_cons_zero, List.getElem?_cons_succ, rd_lst at_last, bl_lenl, outM_val]
      refine ⟨_, rfl, by omega, by omega, ?_⟩
      refine forL_ok (fun i r m1 => ∃ (at1 : Int) (ks1 : List PyData) (w4 w5 : Option Vl), r = [some (.d E), some (.d (.int at1)), some (.d leaf), some (.r m.length), w4, w5] ∧ m1 = m ++ [.lst ks1] ∧ ks1.length = ks.length ∧ ∀ a ∈ ks1, Tr cs d a) (n := 0) ⟨_, ks, none, none, rfl, rfl, rfl, hk⟩ ?_ ?_
      · rintro i x r m1 ⟨j, hj, hij⟩ ⟨at1, ks1, w4, w5, rfl, rfl, hkl, hk1⟩
        obtain ⟨rfl, hjl⟩ := rngL_at hj
        obtain ⟨z, ez, hz⟩ := atI_in (xs := ks1) (i := (j : Int)) (by omega) (by omega)
        show Ok (evB (callN T (n + d + 1)) (.cons (.asg 5 _) _) [some (.d E), some (.d (.int at1)), some (.d leaf), some (.r m.length), some (.d (.int (j : Int))), w5] (m ++ [.lst ks1])) _
        generalize (j : Int) = J at ez hjl
        refine xB (x_asg ?_)
        simp only [evE_call, evL_cons, evL_nil, evE_idx, evE_var, Ok_bind, Ok_ok, bind_ok, List.getElem?_cons_zero, List.getElem?_cons_succ, rd2, rd_d, rd_lst at_last, i_list, ez, opt_some]
        refine (nodes_pu hP hN d n z (hk1 z hz)).ok ?_
        have rest : ∀ (ks2 : List PyData), ks2.length = ks.length → (∀ a ∈ ks2, Tr cs d a) → Ok (evB (callN T (n + d + 1)) (.cons (.asg 1 (.bin .sub (.var 1) (.var 5))) .nil) [some (.d E), some (.d (.int at1)), some (.d leaf), some (.r m.length), some (.d (.int J)), some (.d (.int (cnt z : Int)))] (m ++ [.lst ks2])) fun fl m1 => match fl with
            | .nx r1 => ∃ (at1 : Int) (ks1 : List PyData) (w4 w5 : Option Vl), r1 = [some (.d E), some (.d (.int at1)), some (.d leaf), some (.r m.length), w4, w5] ∧ m1 = m ++ [.lst ks1] ∧ ks1.length = ks.length ∧ ∀ a ∈ ks1, Tr cs d a
            | .rt v => Ok (fin false m.length (.rt v) m1) fun v m' => (∃ e', v = .d e' ∧ Tr cs (d + 1) e') ∧ m' = m := by
          intro ks2 hl2 hk2
          refine xB (x_asg ?_)
          simp only [evE_bin, evE_var, Ok_bind, Ok_ok, List.getElem?_cons_zero, List.getElem?_cons_succ, List.set_cons_succ, List.set_cons_zero, rd2_d, b_sub, opt_some]
          exact x_nil ⟨_, ks2, _, _, rfl, rfl, hl2, hk2⟩
        refine xB (x_ife ?_)
        simp only [evE_chn, evE_var, evE_cst, Ct_int, Ok_bind, Ok_ok, List.getElem?_cons_zero, List.getElem?_cons_succ, List.set_cons_succ, List.set_cons_zero, rd_d, rd2_d, c_le, c_lt]
        have body : Ok (evB (callN T (n + d + 1)) (.cons (.sti (.var 3) (.var 4) (.call "_law_spoilt" (.cons (.idx (.var 3) (.var 4)) (.cons (.var 1) (.cons (.var 2) .nil))))) .nil) [some (.d E), some (.d (.int at1)), some (.d leaf), some (.r m.length), some (.d (.int J)), some (.d (.int (cnt z : Int)))] (m ++ [.lst ks1])) fun fl m1 => match fl with
            | .nx r1 => Ok (evB (callN T (n + d + 1)) (.cons (.asg 1 (.bin .sub (.var 1) (.var 5))) .nil) r1 m1) fun fl m1 => match fl with
              | .nx r1 => ∃ (at1 : Int) (ks1 : List PyData) (w4 w5 : Option Vl), r1 = [some (.d E), some (.d (.int at1)), some (.d leaf), some (.r m.length), w4, w5] ∧ m1 = m ++ [.lst ks1] ∧ ks1.length = ks.length ∧ ∀ a ∈ ks1, Tr cs d a
              | .rt v => Ok (fin false m.length (.rt v) m1) fun v m' => (∃ e', v = .d e' ∧ Tr cs (d + 1) e') ∧ m' = m
            | .rt v => Ok (fin false m.length (.rt v) m1) fun v m' => (∃ e', v = .d e' ∧ Tr cs (d + 1) e') ∧ m' = m := by
          refine xB (x_seti (k := m.length) rfl ?_)
          simp only [evE_call, evL_cons, evL_nil, evE_idx, evE_var, Ok_bind, Ok_ok, bind_ok, List.getElem?_cons_zero, List.getElem?_cons_succ, rd2, rd_d, rd_lst at_last, i_list, ez, opt_some]
          refine (spoilt_ok hl hP hR hW hN hT d n z at1 _ (hk1 z hz)).mono ?_
          rintro v m2 ⟨⟨z', rfl, hz'⟩, rfl⟩
          obtain ⟨j', ej, hj'⟩ : ∃ j', ixN ks1.length J = some j' ∧ j' < ks1.length := by
            unfold atI at ez
            cases q : ixN ks1.length J with
            | none => rw [q] at ez; cases ez
            | some j' => exact ⟨j', rfl, (ixN_seq q).2.1⟩
          refine ⟨z', rfl, J, ks1, j', rfl, at_last, ej, fun m3 h1 h2 h3 => x_nil ?_⟩
          rw [mem_last h1 h2 h3]
          refine rest _ (by rw [List.length_set]; exact hkl) fun a ha => ?_
          rcases List.mem_or_eq_of_mem_set ha with ha | rfl
          · exact hk1 a ha
          · exact hz'
        by_cases h1 : (0 : Int) ≤ at1
        · simp only [h1, decide_true, evE_var, Ok_bind, Ok_ok, List.getElem?_cons_zero, List.getElem?_cons_succ, rd2_d, c_lt, opB_some]
          exact ⟨_, rfl, fun hb => body, fun hb => x_nil (rest ks1 hkl hk1)⟩
        · simp only [h1, decide_false, Ok_ok]
          exact ⟨_, rfl, (fun hb => by cases hb), fun hb => x_nil (rest ks1 hkl hk1)⟩
      · rintro r m1 ⟨at1, ks1, w4, w5, rfl, rfl, hkl, hk1⟩
        refine xB (x_ret ?_)
        simp only [evE_call, evL_cons, evL_nil, evE_var, Ok_bind, Ok_ok, bind_ok, List.getElem?_cons_zero, List.getElem?_cons_succ]
        rw [← hE]
        refine with_ok (n := n + d) (xs := .str w.s :: (as ++ ks)) (ys := ks1) hW (fun a ha => ?_) (rd_lst at_last) (fun c => rd_lst (by rw [List.getElem?_append_left (by simp)]; exact at_last)) (by simp; omega) (by omega) ?_
        · rcases List.mem_cons.mp ha with rfl | ha
          · rfl
          · exact hnd a ha
        · simp only [fin_d, Ok_ok]
          rw [List.take_left' rfl]
          refine ⟨⟨_, rfl, ?_⟩, rfl⟩
          have e1 : (PyData.str w.s :: (as ++ ks)).filter (fun a => !isT a) = .str w.s :: as := by
            rw [List.filter_cons]
            show PyData.str w.s :: List.filter (fun a => !isT a) (as ++ ks) = _
            rw [hfl.2]
          rw [e1, List.cons_append]
          exact .mk (by rw [hkl]; exact f) hk1
end
end Mp
-- Ev13
set_option Elab.async false
set_option linter.all false
set_option maxRecDepth 100000
set_option maxHeartbeats 2000000
namespace Mp
open PySem L2
theorem cnt_le {cs : Str → Nat → Prop} : ∀ {d : Nat} {e : PyData}, Tr cs d e → 1 ≤ cnt e ∧ cnt e ≤ 7 ^ d
  | 0, _, h => by cases h
  | d + 1, _, h => by
    cases h with
    | @mk w as ks _ f hk =>
    have es : cnt (.str w.s) = 0 := by rw [cnt]; intro xs h; cases h
    have e0 : cntL as = 0 := by
      have : ∀ l : List PyData, (∀ a ∈ l, cnt a = 0) → cntL l = 0 := by
        intro l
        induction l with
        | nil => intro _; rfl
        | cons x l ih => intro h; rw [cntL, h x List.mem_cons_self, ih fun y hy => h y (List.mem_cons_of_mem _ hy)]
      exact this as fun a ha => (f.flat a ha).2.2
    have ek : ∀ l : List PyData, (∀ a ∈ l, cnt a ≤ 7 ^ d) → cntL l ≤ l.length * 7 ^ d := by
      intro l
      induction l with
      | nil => intro _; simp [cntL]
      | cons x l ih =>
        intro h
        have h1 := h x List.mem_cons_self
        have h2 := ih fun y hy => h y (List.mem_cons_of_mem _ hy)
        rw [cntL, List.length_cons, Nat.succ_mul]; omega
    have hk2 := ek ks fun a ha => (cnt_le (hk a ha)).2
    have h6 := f.small.2
    rw [cnt, cntL, cntL_app, es, e0]
    have h3 : ks.length * 7 ^ d ≤ 6 * 7 ^ d := Nat.mul_le_mul_right _ h6
    have h4 : 1 ≤ 7 ^ d := Nat.one_le_pow _ _ (by decide)
    rw [Nat.pow_succ]
    omega
theorem Form.plain {cs : Str → Nat → Prop} {w : W} {as : List PyData} {k : Nat} (f : Form cs w as k) : ∀ a ∈ as, PyData.canLay0 a = true ∧ PyData.depth a = 0 := by
  have sg : ∀ x ∈ sgs, PyData.strOk x = true := by
    have q : sgs.all PyData.strOk = true := by decide +kernel
    exact fun x hx => List.all_eq_true.mp q x hx
  have st : ∀ x, PyData.strOk x = true → ∀ a ∈ [PyData.str x], PyData.canLay0 a = true ∧ PyData.depth a = 0 := by
    intro x hx a ha
    have e : a = .str x := by simpa using ha
    rw [e, PyData.canLay0, PyData.depth]
    exact ⟨hx, rfl⟩
  have it : ∀ i, ∀ a ∈ [PyData.int i], PyData.canLay0 a = true ∧ PyData.depth a = 0 := by
    intro i a ha
    have e : a = .int i := by simpa using ha
    rw [e, PyData.canLay0, PyData.depth]
    exact ⟨rfl, rfl⟩
  have no : ∀ a ∈ ([] : List PyData), PyData.canLay0 a = true ∧ PyData.depth a = 0 := fun a h => by cases h
  cases f
  · exact no
  · exact it _
  · rename_i x h; exact st x (low_ok h.1.1)
  · rename_i x h; exact st x (sg x h)
  · exact no
  · rename_i x h; exact st x (low_ok h.1.1)
  · rename_i x h; exact st x (low_ok h.1.1)
  · exact no
  · exact no
  · exact it _
  · rename_i x h1 h2 h3; first | exact st x (low_ok h2.1.1) | exact st x (low_ok h3.1.1) | exact st _ (low_ok (by assumption : Nw _).1.1)
theorem tr_flat {cs : Str → Nat → Prop} {d : Nat} {e : PyData} (h : Tr cs d e) : PyData.canLay0 e = true ∧ PyData.depth e ≤ d := by
  induction h with
  | @mk w as ks n f hk ih =>
    have ha : ∀ l : List PyData, (∀ a ∈ l, PyData.canLay0 a = true ∧ PyData.depth a ≤ n) → PyData.canLayAll0 l = true ∧ PyData.depthAll l ≤ n := by
      intro l
      induction l with
      | nil => intro _; exact ⟨rfl, Nat.zero_le _⟩
      | cons x l ih2 =>
        intro h
        obtain ⟨h1, h2⟩ := h x List.mem_cons_self
        obtain ⟨h3, h4⟩ := ih2 fun y hy => h y (List.mem_cons_of_mem _ hy)
        rw [PyData.canLayAll0, PyData.depthAll, h1, h3]
        exact ⟨rfl, by omega⟩
    have fa := fun a h => (⟨(f.plain a h).1, by rw [(f.plain a h).2]; exact Nat.zero_le _⟩ : PyData.canLay0 a = true ∧ PyData.depth a ≤ n)
    obtain ⟨h1, h2⟩ := ha (as ++ ks) fun a h => (List.mem_append.mp h).elim (fa a) (ih a)
    rw [PyData.canLay0, PyData.depth, PyData.canLayAll0, PyData.depthAll, h1, PyData.canLay0, w.ok.1, PyData.depth]
    exact ⟨rfl, by omega⟩
theorem shp_tr {cs : Str → Nat → Prop} {d : Nat} {l : List PyData} (h : ∀ a ∈ l, Tr cs d a) (hd : d ≤ 60) : Shp l := by
  have : PyData.canLayAll0 l = true ∧ PyData.depthAll l ≤ 60 := by
    induction l with
    | nil => exact ⟨rfl, Nat.zero_le _⟩
    | cons x l ih =>
      obtain ⟨h1, h2⟩ := tr_flat (h x List.mem_cons_self)
      obtain ⟨h3, h4⟩ := ih fun y hy => h y (List.mem_cons_of_mem _ hy)
      rw [PyData.canLayAll0, PyData.depthAll, h1, h3]
      exact ⟨rfl, by omega⟩
  exact ⟨this.1, by omega⟩
end Mp
-- Ev14
set_option Elab.async false
set_option linter.all false
set_option maxRecDepth 100000
set_option maxHeartbeats 2000000
namespace Mp
open PySem L2
theorem cutL_take {α : Type} {xs : List α} {j : Nat} : cutL xs none (some (j : Int)) = xs.take j := by
  unfold cutL
  rw [HT.sIx_nat, HT.sIx_none, List.drop_zero, Nat.sub_zero, ← List.take_take, List.take_length]
theorem cutL_drop {α : Type} {xs : List α} {j : Nat} : cutL xs (some (j : Int)) none = xs.drop j := by
  unfold cutL
  rw [HT.sIx_nat, HT.sIx_none]
  by_cases h : j ≤ xs.length
  · rw [Nat.min_eq_left h, List.take_of_length_le (by simp)]
  · rw [Nat.min_eq_right (by omega), List.drop_length, List.drop_eq_nil_of_le (by omega)]; simp
/-- the texts that the makers of trees lean on -/
structure Has (T : Str → Option Fn) : Prop where
  draw : T "_law_draw" = some F_law_draw
  value : T "_law_value" = some F_law_value
  spelled : T "_law_spelled" = some F_law_spelled
  name : T "_law_name" = some F_law_name
  names : T "_law_names" = some F_law_names
  parts : T "_law_parts" = some F_law_parts
  partsR : T "_law_parts!" = some F_law_parts_r
  with_ : T "_law_with" = some F_law_with
  nodes : T "_law_nodes" = some F_law_nodes
  work : T "_law_work" = some F_law_work
  right : T "_law_right" = some F_law_right
  leaf : T "_law_leaf" = some F_law_leaf
  turned : T "_law_turned" = some F_law_turned
  spoilt : T "_law_spoilt" = some F_law_spoilt
  copied : T "_law_copied" = some F_law_copied
  bound : T "_law_bound" = some F_law_bound
  called : T "_law_called" = some F_law_called
  expr : T "_law_expr" = some F_law_expr
section
variable {T : Str → Option Fn} {cs : Str → Nat → Prop} {L : Nat} {c : Int} {m : Mem} {kf kw : Nat} {D ro : Nat} {w : Wld} {bs : List Str}
theorem turned_L {ns os : List Str} {e : PyData} (hT : Has T) (hL : D + 1 ≤ L) (hl : ns.length = os.length) (ho : ∀ x ∈ os, Nw x) (h : Tr cs D e) : Ok (callN T L "_law_turned" [.d e, .d (.list (ns.map .str)), .d (.list (os.map .str))] m) fun v m' => (∃ e', v = .d e' ∧ Tr cs D e') ∧ m' = m := by
  obtain ⟨n, rfl⟩ : ∃ n, L = n + D + 1 := ⟨L - D - 1, by omega⟩
  exact turned_ok hT.parts hT.with_ hT.turned hl ho D n e m h
theorem spoilt_L {e leaf : PyData} {a : Int} (hT : Has T) (hL : D + 1 ≤ L) (hl : Tr cs 1 leaf) (h : Tr cs D e) : Ok (callN T L "_law_spoilt" [.d e, .d (.int a), .d leaf] m) fun v m' => (∃ e', v = .d e' ∧ Tr cs D e') ∧ m' = m := by
  obtain ⟨n, rfl⟩ : ∃ n, L = n + D + 1 := ⟨L - D - 1, by omega⟩
  exact spoilt_ok hl hT.parts hT.partsR hT.with_ hT.nodes hT.spoilt D n e a m h
theorem nodes_L {e : PyData} (hT : Has T) (hL : D + 1 ≤ L) (h : Tr cs D e) : Pu T L "_law_nodes" [.d e] (.int (cnt e)) := by
  obtain ⟨n, rfl⟩ : ∃ n, L = n + D + 1 := ⟨L - D - 1, by omega⟩
  exact nodes_pu hT.parts hT.nodes D n e h
theorem work_L {e : PyData} {wv : Vl} {l : List (Key × PyData)} (hT : Has T) (hL : D + 1 ≤ L) (hl : Wks cs l) (h : Tr cs D e) (hw : ∀ ext, rd (m ++ ext) wv = some (.dict (reK l))) : Ok (callN T L "_law_work" [.d e, wv] m) fun v m' => (∃ i : Int, v = .d (.int i)) ∧ m' = m := by
  obtain ⟨n, rfl⟩ : ∃ n, L = n + D + 1 := ⟨L - D - 1, by omega⟩
  exact work_ok hl hT.parts hT.work D n e m h hw
theorem right_L {e : PyData} (hT : Has T) (hL : D + 1 ≤ L) (h : Tr cs D e) (hb : bs.length + D ≤ 1000) : Ok (callN T L "_law_right" [.d e, .d (.list (bs.map .str))] m) fun v m' => (∃ b : Bool, v = .d (.bool b) ∧ (b = true → Gd cs D bs e)) ∧ m' = m := by
  obtain ⟨n, rfl⟩ : ∃ n, L = n + D + 1 := ⟨L - D - 1, by omega⟩
  exact right_ok hT.parts hT.right D n e bs m h hb
def copyQ (cs : Str → Nat → Prop) (D ro : Nat) (bs : List Str) (w : Wld) (c : Int) (m : Mem) (kf kw : Nat) (v : Vl) (m' : Mem) : Prop := ∃ e, v = .d e ∧ Gd cs D bs e ∧ cnt e ≤ 41 ∧ Fd c m' kf ∧ Wd ro w m' kw ∧ Frm [kf, kw] m m'
theorem frm1 {m' : Mem} (h : Frm [kf] m m') : Frm [kf, kw] m m' := h.weak fun j hj => by simp at hj; simp [hj]
theorem copied_ok {below times : Int} (hT : Has T) (hL : D + 4 ≤ L) (hm : Fd c m kf) (hw : Wd ro w m kw) (hR : ro ≤ 40) (ne : kw ≠ kf) (ok : WOk cs D w) (hb : ∀ x ∈ bs, Nw x) (hbl : bs.length ≤ 900) (ht0 : 0 ≤ times) (ht : times < 2 ^ 60) (hc : c + 13 ≤ 2 ^ 62) :
    Ok (callN T L "_law_copied" [.r kf, .r kw, .d (.list (bs.map .str)), .d (.int below), .d (.int times)] m) (copyQ cs D ro bs w (c + 13) m kf kw) := by
  obtain ⟨n, rfl⟩ : ∃ n, L = n + 1 := ⟨L - 1, by omega⟩
  have hD := ok.D0
  have hD1 := ok.D1
  have hb' := hb
  have leaf : ∀ (c' : Int) (m1 : Mem), c' + 4 ≤ c + 13 → Fd c' m1 kf → Wd ro w m1 kw → Frm [kf, kw] m m1 → Ok (callN T n "_law_leaf" [.r kf, .r kw, .d (.list (bs.map .str))] m1) fun v m2 => Ok (fin false m.length (.rt v) m2) (copyQ cs D ro bs w (c + 13) m kf kw) := fun c' m1 hc' hm1 hw1 fr1 =>
    (leaf_ok (by omega) hT.draw hT.value hT.leaf hm1 hw1 ne ok hb (by omega) (by omega)).mono fun v m2 ⟨e, h1, h2, h3, h4, h5⟩ => by
      subst h1
      have fr := fr1.trans (frm1 (kw := kw) h5)
      simp only [fin_d, Ok_ok, take_same fr.1]
      exact ⟨e, rfl, h2.mono (fun _ _ h => h) hD, by omega, h4.weak (by omega) hc, hw1.frm h5 (by simpa using ne), fr⟩
  refine call_ok hT.copied rfl ?_
  show Ok (evB (callN T n) F_law_copied.body [some (.r kf), some (.r kw), some (.d (.list (bs.map .str))), some (.d (.int below)), some (.d (.int times)), none, none, none, none, none, none, none] m) fun fl m1 => Ok (fin false m.length fl m1) _
  obtain ⟨room, toil, hw0, hr⟩ := hw
  have e0 := rd_at hw0
  have hsh := shp_tr ok.sd (by have := ok.D1; omega)
  refine xB (x_ife ?_)
  simp only [evE_cmp, evE_idx, evE_var, evE_cst, Ct_str, evE_lst, evL_nil, fzL_nil, mkl_f, Ok_bind, Ok_ok, bind_ok, List.getElem?_cons_zero, List.getElem?_cons_succ, rd2, rd_d, e0, wd_seeds, opt_some, eq_nil hsh, opB_some]
  refine ⟨_, rfl, fun hb => ?_, fun hb => x_nil ?_⟩
  · refine xB (x_ret ?_)
    simp only [evE_call, evL_cons, evL_nil, evE_var, Ok_bind, Ok_ok, bind_ok, List.getElem?_cons_zero, List.getElem?_cons_succ]
    exact leaf c m (by omega) hm ⟨room, toil, hw0, hr⟩ (.refl _ _)
  · have hs0 : 0 < w.sd.length := by
      cases hsd : w.sd with
      | nil => rw [hsd] at hb; cases hb
      | cons _ _ => simp
    have hsl := ok.sl
    have hnl := ok.nl
    have hn0 : 0 < w.ns.length := by cases h : w.ns with | nil => exact absurd h ok.n0 | cons _ _ => simp
    show Ok (evB (callN T n) (F_law_copied.body.tl 1) [some (.r kf), some (.r kw), some (.d (.list (bs.map .str))), some (.d (.int below)), some (.d (.int times)), none, none, none, none, none, none, none] m) _
    refine xB (x_asg ?_)
    simp only [evE_idx, evE_call, evL_cons, evL_nil, evE_blt, evE_var, evE_cst, Ct_str, Ok_bind, Ok_ok, bind_ok, List.getElem?_cons_zero, List.getElem?_cons_succ, rd2, rd_d, e0, wd_seeds, opt_some, bl_lenl, outM_val]
    refine (draw_L (by omega) hT.draw hm (by omega) (by omega) (by omega)).mono ?_
    rintro v m1 ⟨i, rfl, i0, i1, hm1, fr1⟩
    obtain ⟨seed, es, hsm⟩ := atI_in i0 i1
    have hw1 := hw0
    rw [← fr1.2 kw (by simpa using ne)] at hw1
    have e1 := rd_at hw1
    simp only [rd_d, i_list, es, opt_some, Ok_ok]
    refine xB (x_asg ?_)
    simp only [evE_idx, evE_var, evE_cst, Ct_str, Ok_bind, Ok_ok, List.getElem?_cons_zero, List.getElem?_cons_succ, List.set_cons_zero, List.set_cons_succ, rd2, rd_d, e1, wd_names, opt_some]
    refine xB (x_asg ?_)
    simp only [evE_call, evL_cons, evL_nil, evE_blt, evE_var, Ok_bind, Ok_ok, bind_ok, List.getElem?_cons_zero, List.getElem?_cons_succ, List.set_cons_zero, List.set_cons_succ, rd_d, bl_lenl, outM_val]
    refine (draw_L (by omega) hT.draw hm1 (by simp; omega) (by simp; omega) (by omega)).mono ?_
    rintro v m2 ⟨j, rfl, j0, j1, hm2, fr2⟩
    refine xB (x_asg ?_)
    obtain ⟨j', rfl⟩ : ∃ j' : Nat, j = (j' : Int) := ⟨j.toNat, by omega⟩
    have fr12 := fr1.trans fr2
    have hw2 : m2[kw]? = _ := (fr2.2 kw (by simpa using ne)).trans hw1
    have tail8 : ∀ (c3 : Int) (m3 : Mem) (e : PyData) (r5 r6 r7 r8 : Option Vl), c3 + 4 ≤ c + 13 → Fd c3 m3 kf → m3[kw]? = some (.dct (worldD w room toil)) → Frm [kf] m m3 → Tr cs D e →
        Ok (evB (callN T n) (F_law_copied.body.tl 8) [some (.r kf), some (.r kw), some (.d (.list (bs.map .str))), some (.d (.int below)), some (.d (.int times)), r5, r6, r7, r8, some (.d e), none, none] m3) fun fl m1 => Ok (fin false m.length fl m1) (copyQ cs D ro bs w (c + 13) m kf kw) := by
      intro c3 m3 e r5 r6 r7 r8 hc3 hm3 hw3 fr3 he
      have e3 := rd_at hw3
      have ot : okI times = true := okI_by (by omega) (by omega)
      have o30 : okI 30 = true := rfl
      refine xB (x_asg ?_)
      simp only [evE_bin, evE_call, evL_cons, evL_nil, evE_idx, evE_var, evE_cst, Ct_str, Ok_bind, Ok_ok, bind_ok, List.getElem?_cons_zero, List.getElem?_cons_succ, rd2, rd_d, e3, wd_works, opt_some]
      refine (work_L (wv := .d (.dict (reK w.wl))) hT (by omega) ok.wl he fun _ => rfl).mono ?_
      rintro v m4 ⟨⟨wk, rfl⟩, rfl⟩
      simp only [rd_d, b_mul_l ot, opt_some, Ok_ok]
      generalize times * wk = cost
      have back := leaf c3 m4 (by omega) hm3 ⟨room, toil, hw3, hr⟩ (frm1 fr3)
      refine xB (x_ife ?_)
      have keep : Gd cs D bs e → cnt e ≤ 40 → Ok (evB (callN T n) (F_law_copied.body.tl 10) [some (.r kf), some (.r kw), some (.d (.list (bs.map .str))), some (.d (.int below)), some (.d (.int times)), r5, r6, r7, r8, some (.d e), some (.d (.int cost)), none] m4) fun fl m1 => Ok (fin false m.length fl m1) (copyQ cs D ro bs w (c + 13) m kf kw) := by
        intro hgd hce
        refine xB (x_put (k := kw) rfl ?_)
        simp only [evE_bin, evE_idx, evE_var, evE_cst, Ct_str, Ok_bind, Ok_ok, List.getElem?_cons_zero, List.getElem?_cons_succ, rd2, rd_d, e3, wd_toil, opt_some, b_sub]
        refine ⟨_, _, rfl, hw3, wd_len, fun m5 hk5 hl5 hf5 => ?_⟩
        rw [wd_ptoil] at hk5
        have e5 := rd_at hk5
        refine xB (x_put (k := kw) rfl ?_)
        simp only [evE_bin, evE_idx, evE_call, evL_cons, evL_nil, evE_var, evE_cst, Ct_str, Ok_bind, Ok_ok, bind_ok, List.getElem?_cons_zero, List.getElem?_cons_succ, rd2, rd_d, e5, wd_room, opt_some]
        refine (nodes_L hT (by omega) he).ok ?_
        simp only [rd_d, b_sub, opt_some, Ok_ok]
        refine ⟨_, _, rfl, hk5, wd_len, fun m6 hk6 hl6 hf6 => ?_⟩
        rw [wd_proom] at hk6
        refine xB (x_ret ?_)
        have hl : m6.length = m.length := by rw [hl6, hl5, fr3.1]
        simp only [evE_var, List.getElem?_cons_zero, List.getElem?_cons_succ, Ok_ok, fin_d, take_same hl]
        refine ⟨e, rfl, hgd, by omega, (hm3.of ((hf6 kf (Ne.symm ne)).trans (hf5 kf (Ne.symm ne)))).weak (by omega) hc, ⟨_, _, hk6, by omega⟩, hl, fun j hj => ?_⟩
        have hj2 : j ≠ kw := fun h => hj (by simp [h])
        have hj1 : j ≠ kf := fun h => hj (by simp [h])
        exact (hf6 j hj2).trans ((hf5 j hj2).trans (fr3.2 j (by simpa using hj1)))
      simp only [evE_or, evOr_cons, evOr_one, evE_not, evE_call, evL_cons, evL_nil, evE_var, Ok_bind, Ok_ok, bind_ok, List.getElem?_cons_zero, List.getElem?_cons_succ, List.set_cons_zero, List.set_cons_succ]
      refine (right_L hT (by omega) he (by omega)).mono ?_
      rintro v m5 ⟨⟨b, rfl, hgd⟩, rfl⟩
      simp only [asB_b, Ok_ok]
      cases b with
      | false =>
        simp only [Bool.not_false, Ok_ok]
        refine ⟨_, rfl, fun _ => ?_, fun h => by cases h⟩
        refine xB (x_ret ?_)
        simp only [evE_call, evL_cons, evL_nil, evE_var, Ok_bind, Ok_ok, bind_ok, List.getElem?_cons_zero, List.getElem?_cons_succ]
        exact back
      | true =>
        simp only [Bool.not_true, evOr_cons, evOr_one, evE_cmp, evE_bin, evE_idx, evE_call, evL_cons, evL_nil, evE_var, evE_cst, Ct_str, Ct_int, Ok_bind, Ok_ok, bind_ok, List.getElem?_cons_zero, List.getElem?_cons_succ, rd2, rd_d, e3, wd_toil, opt_some, b_mul_l o30, b_sub, c_gt, opB_some, asB_b]
        by_cases h2 : toil - 30 * times < cost
        · simp only [h2, decide_true, Ok_ok]
          refine ⟨_, rfl, fun _ => ?_, fun h => by cases h⟩
          refine xB (x_ret ?_)
          simp only [evE_call, evL_cons, evL_nil, evE_var, Ok_bind, Ok_ok, bind_ok, List.getElem?_cons_zero, List.getElem?_cons_succ]
          exact back
        · simp only [h2, decide_false, evOr_one, evE_cmp, evE_idx, evE_call, evL_cons, evL_nil, evE_var, evE_cst, Ct_str, Ok_bind, Ok_ok, bind_ok, List.getElem?_cons_zero, List.getElem?_cons_succ]
          refine (nodes_L hT (by omega) he).ok ?_
          simp only [rd2, rd_d, e3, wd_room, opt_some, c_gt, opB_some, asB_b, Ok_ok]
          refine ⟨_, rfl, fun _ => ?_, fun h => x_nil (keep (hgd rfl) ?_)⟩
          · refine xB (x_ret ?_)
            simp only [evE_call, evL_cons, evL_nil, evE_var, Ok_bind, Ok_ok, bind_ok, List.getElem?_cons_zero, List.getElem?_cons_succ]
            exact back
          · have h := of_decide_eq_false h
            omega
    have tail6 : ∀ (c3 : Int) (m3 : Mem) (os : List Str) (r7 : Option Vl), c3 + 10 ≤ c + 13 → Fd c3 m3 kf → m3[kw]? = some (.dct (worldD w room toil)) → Frm [kf] m m3 → w.ns.length = os.length → (∀ x ∈ os, Nw x) →
        Ok (evB (callN T n) (F_law_copied.body.tl 6) [some (.r kf), some (.r kw), some (.d (.list (bs.map .str))), some (.d (.int below)), some (.d (.int times)), some (.d seed), some (.d (.list (w.ns.map .str))), r7, some (.d (.list (os.map .str))), none, none, none] m3) fun fl m1 => Ok (fin false m.length fl m1) (copyQ cs D ro bs w (c + 13) m kf kw) := by
      intro c3 m3 os r7 hc3 hm3 hw3 fr3 hol hos
      refine xB (x_asg ?_)
      simp only [evE_call, evL_cons, evL_nil, evE_var, Ok_bind, Ok_ok, bind_ok, List.getElem?_cons_zero, List.getElem?_cons_succ]
      refine (turned_L hT (by omega) hol hos (ok.sd seed hsm)).mono ?_
      rintro v m4 ⟨⟨e, rfl, he⟩, rfl⟩
      refine xB (x_ife ?_)
      simp only [evE_cmp, evE_call, evL_cons, evL_nil, evE_var, evE_cst, Ct_int, Ok_bind, Ok_ok, bind_ok, List.getElem?_cons_zero, List.getElem?_cons_succ, List.set_cons_zero, List.set_cons_succ]
      refine (draw_L (by omega) hT.draw hm3 (by decide) (by decide) (by omega)).mono ?_
      rintro v m5 ⟨q, rfl, q0, q1, hm5, fr5⟩
      simp only [rd2_d, c_eqi, opB_some, Ok_ok]
      have hw5 := (fr5.2 kw (by simpa using ne)).trans hw3
      refine ⟨_, rfl, fun _ => ?_, fun _ => x_nil (tail8 _ m5 e _ _ _ _ (by omega) hm5 hw5 (fr3.trans fr5) he)⟩
      have hcn := cnt_le he
      have hD10 := ok.D1
      have h710 : 7 ^ D ≤ 7 ^ 10 := Nat.pow_le_pow_right (by decide) hD10
      have e710 : 7 ^ 10 = 282475249 := rfl
      refine xB (x_asg ?_)
      simp only [evE_call, evL_cons, evL_nil, evE_var, Ok_bind, Ok_ok, bind_ok, List.getElem?_cons_zero, List.getElem?_cons_succ, List.set_cons_zero, List.set_cons_succ]
      refine (nodes_L hT (by omega) he).ok ?_
      refine (draw_L (by omega) hT.draw hm5 (by omega) (by omega) (by omega)).mono ?_
      rintro v m6 ⟨a, rfl, a0, a1, hm6, fr6⟩
      try simp only [Ok_ok]
      have hw6 := (fr6.2 kw (by simpa using ne)).trans hw5
      refine (leaf_ok (by omega) hT.draw hT.value hT.leaf hm6 ⟨room, toil, hw6, hr⟩ ne ok hb' (by omega) (by omega)).mono ?_
      rintro v m7 ⟨lf, rfl, hl1, hl2, hm7, fr7⟩
      try simp only [Ok_ok]
      refine (spoilt_L hT (by omega) hl1.tr he).mono ?_
      rintro v m8 ⟨⟨e', rfl, he'⟩, rfl⟩
      exact x_nil (tail8 _ m8 e' _ _ _ _ (by omega) hm7 ((fr7.2 kw (by simpa using ne)).trans hw6) (fr3.trans (fr5.trans (fr6.trans fr7))) he')
    have eo : (w.ns.map PyData.str).drop j' ++ (w.ns.map PyData.str).take j' = (w.ns.drop j' ++ w.ns.take j').map .str := by simp
    have hjl : j' < w.ns.length := by simp at j1; omega
    simp only [evE_bin, evE_slf, evE_slt, evE_var, Ok_bind, Ok_ok, List.getElem?_cons_zero, List.getElem?_cons_succ, List.set_cons_zero, List.set_cons_succ, rd_d, sl_list, cutL_take, cutL_drop, opt_some, rd2_d, b_addl (small (show ((w.ns.map PyData.str).drop j').length + ((w.ns.map PyData.str).take j').length ≤ 1000000 by simp; omega)), eo]
    have hol : w.ns.length = (w.ns.drop j' ++ w.ns.take j').length := by simp; omega
    have hos : ∀ x ∈ w.ns.drop j' ++ w.ns.take j', Nw x := low_add (fun x h => ok.ns x (List.mem_of_mem_drop h)) fun x h => ok.ns x (List.mem_of_mem_take h)
    generalize w.ns.drop j' ++ w.ns.take j' = os at hol hos
    refine xB (x_ife ?_)
    simp only [evE_cmp, evE_call, evL_cons, evL_nil, evE_var, evE_cst, Ct_int, Ok_bind, Ok_ok, bind_ok, List.getElem?_cons_zero, List.getElem?_cons_succ]
    refine (draw_L (by omega) hT.draw hm2 (by decide) (by decide) (by omega)).mono ?_
    rintro v m3 ⟨q, rfl, q0, q1, hm3, fr3⟩
    simp only [rd2_d, c_eqi, opB_some, Ok_ok]
    have hw3 := (fr3.2 kw (by simpa using ne)).trans hw2
    refine ⟨_, rfl, fun _ => ?_, fun _ => x_nil (tail6 _ m3 os _ (by omega) hm3 hw3 (fr12.trans fr3) hol hos)⟩
    refine xB (x_asg ?_)
    cases hos2 : os with
    | nil => rw [hos2] at hol; exact absurd hol (by rw [List.length_nil]; omega)
    | cons o1 os1 =>
    refine x_lc (fun _ => some (.str o1)) ?_
    simp only [evI_e, evE_var, Ok_bind, Ok_ok, bind_ok, List.getElem?_cons_zero, List.getElem?_cons_succ, fz_d]
    refine .of ⟨fun a ha acc => ⟨_, rfl, ?_⟩, ?_⟩
    · rw [evE_idx, Ok_bind, evE_var]
      show Ok (R.ok (Vl.d (.list ((o1 :: os1).map .str))) (m3 ++ [Cell.lst acc])) _
      simp only [Ok_ok, evE_cst, Ct_int, Ok_bind, rd2_d, i_list, List.map_cons, atI_0, opt_some]
      exact ⟨_, rfl, rfl, True.intro⟩
    · have ef : (w.ns.map PyData.str).filterMap (fun _ => some (PyData.str o1)) = (w.ns.map fun _ => o1).map .str := by rw [fm_map (f := fun _ => PyData.str o1)]; simp
      rw [ef]
      simp only [Bool.false_eq_true, if_false]
      refine x_nil (tail6 _ m3 (w.ns.map fun _ => o1) _ (by omega) hm3 hw3 (fr12.trans fr3) (by simp) fun x hx => ?_)
      obtain ⟨_, _, rfl⟩ := List.mem_map.mp hx
      exact hos _ (by rw [hos2]; simp)
end
end Mp
-- Ev15
set_option Elab.async false
set_option linter.all false
set_option maxRecDepth 100000
set_option maxHeartbeats 2000000
namespace Mp
open PySem L2
theorem evI_rngv {F : Fs} {r : En} {m : Mem} {vv : Nat} {M : Int} (hv : r[vv]? = some (some (.d (.int M)))) (h0 : 0 ≤ M) (h1 : M ≤ 16777216) : evI F (.rng (.var vv)) r m = .ok (rngL 0 M) m := by
  have hr : rngOk 0 M = true := by
    unfold rngOk
    have : (M - 0).toNat ≤ sizeLine := by have : sizeLine = 16777216 := rfl; omega
    simp only [this, decide_true, Bool.and_true, Bool.and_eq_true, decide_eq_true_eq]
    omega
  rw [evI_rng, evE_var, hv]
  simp only [bind_ok]
  rw [if_pos hr]
def NB : Nat → Nat
  | 0 => 1
  | 1 => 1
  | b + 2 => 41 * 7 ^ b
theorem NB_pos : ∀ b, 1 ≤ NB b
  | 0 => Nat.le_refl _
  | 1 => Nat.le_refl _
  | b + 2 => by
    have h4 : 1 ≤ 7 ^ b := Nat.one_le_pow _ _ (by decide)
    show 1 ≤ 41 * 7 ^ b
    omega
theorem NB_up : ∀ b, 1 ≤ b → 1 + 6 * NB b ≤ NB (b + 1) ∧ 41 ≤ NB (b + 1)
  | 0, h => by omega
  | 1, _ => by decide
  | b + 2, _ => by
    have h4 : 1 ≤ 7 ^ b := Nat.one_le_pow _ _ (by decide)
    show 1 + 6 * (41 * 7 ^ b) ≤ 41 * 7 ^ (b + 1) ∧ 41 ≤ 41 * 7 ^ (b + 1)
    rw [Nat.pow_succ]
    omega
def EB (b : Nat) : Int := 60 * 7 ^ b
theorem EB_up (b : Nat) : 60 ≤ EB b ∧ EB (b + 1) = 7 * EB b := by
  unfold EB
  have h : (1 : Int) ≤ 7 ^ b := by
    have : 1 ≤ 7 ^ b := Nat.one_le_pow _ _ (by decide)
    exact_mod_cast this
  constructor
  · omega
  · rw [Int.pow_succ]; omega
section
variable {T : Str → Option Fn} {cs : Str → Nat → Prop} {L : Nat} {c : Int} {m : Mem} {kf kw : Nat} {D ro : Nat} {w : Wld} {bs : List Str}
/-- how deep: below b, with so much room, seeds D deep -/
def dp (D : Nat) : Nat → Nat → Nat
  | 0, _ => 1
  | 1, _ => 1
  | b + 2, ro => if ro ≤ 6 then 1 else max D (1 + dp D (b + 1) (ro - 1))
theorem dp_pos (D : Nat) : ∀ b ro, 1 ≤ dp D b ro
  | 0, _ => Nat.le_refl _
  | 1, _ => Nat.le_refl _
  | b + 2, ro => by unfold dp; split <;> omega
theorem dp_le {D : Nat} (hD : 1 ≤ D) : ∀ b ro, dp D b ro ≤ b + D
  | 0, _ => by show 1 ≤ 0 + D; omega
  | 1, _ => by show 1 ≤ 1 + D; omega
  | b + 2, ro => by
    have := dp_le hD (b + 1) (ro - 1)
    unfold dp; split <;> omega
def exprQ (cs : Str → Nat → Prop) (d ro : Nat) (bs : List Str) (w : Wld) (b : Nat) (c : Int) (m : Mem) (kf kw : Nat) (v : Vl) (m' : Mem) : Prop := ∃ e, v = .d e ∧ Gd cs d bs e ∧ cnt e ≤ NB b ∧ Fd c m' kf ∧ Wd ro w m' kw ∧ Frm [kf, kw] m m'
def ExprAt (T : Str → Option Fn) (cs : Str → Nat → Prop) (D : Nat) (w : Wld) (kf kw : Nat) (b L : Nat) : Prop := ∀ (c : Int) (m : Mem) (bs : List Str) (times : Int) (ro : Nat), ro ≤ 40 → Fd c m kf → Wd ro w m kw → (∀ x ∈ bs, Nw x) → bs.length + b ≤ 890 → 0 ≤ times → times * 10 ^ b < 10 ^ 15 → c + EB b ≤ 2 ^ 62 →
  Ok (callN T L "_law_expr" [.r kf, .r kw, .d (.list (bs.map .str)), .d (.int (b : Int)), .d (.int times)] m) (exprQ cs (dp D b ro) ro bs w b (c + EB b) m kf kw)
theorem kids_ok {b : Nat} (IH : ExprAt T cs D w kf kw b L) {r : En} {s vv many : Nat} {below times : Int} {Q : Vl → Mem → Prop} (hs : 5 ≤ s) (hb1 : below - 1 = (b : Int)) (h0 : r[0]? = some (some (.r kf))) (h1 : r[1]? = some (some (.r kw))) (h2 : r[2]? = some (some (.d (.list (bs.map .str))))) (h3 : r[3]? = some (some (.d (.int below)))) (h4 : r[4]? = some (some (.d (.int times))))
    (hv : r[vv]? = some (some (.d (.int (many : Int))))) (hmany : many ≤ 6) (hm : Fd c m kf) (hw : Wd ro w m kw) (hR : ro ≤ 40) (hb : ∀ x ∈ bs, Nw x) (hbl : bs.length + b ≤ 890) (ht0 : 0 ≤ times) (ht : times * 10 ^ b < 10 ^ 15) (hc : c + 6 * EB b ≤ 2 ^ 62)
    (hQ : ∀ es m', es.length = many → (∀ e ∈ es, Gd cs (dp D b ro) bs e ∧ cnt e ≤ NB b) → Fd (c + 6 * EB b) m' kf → Wd ro w m' kw → Frm [kf, kw] m m' → Q (.d (.list es)) m') :
    Ok (evE (callN T L) (.lc false (.call "_law_expr" (.cons (.var 0) (.cons (.var 1) (.cons (.var 2) (.cons (.bin .sub (.var 3) (.cst (.int 1))) (.cons (.var 4) .nil)))))) (.v s) (.rng (.var vv))) r m) Q := by
  have hE := (EB_up b).1
  have hkf := hm.lt
  have hkw := hw.lt
  show Ok ((evI (callN T L) (.rng (.var vv)) r m).bind _) Q
  generalize hM : (many : Int) = M at hv
  rw [Ok_bind, evI_rngv hv (by omega) (by omega), Ok_ok, Ok_bind]
  have hl : (rngL 0 M).length = many := by rw [rngL_len]; omega
  refine lcL_ok (fun i acc m' => i ≤ many ∧ m'.length = m.length + 1 ∧ acc.length = i ∧ (∀ e ∈ acc, Gd cs (dp D b ro) bs e ∧ cnt e ≤ NB b) ∧ Fd (c + i * EB b) m' kf ∧ Wd ro w m' kw ∧ Ext [kf, kw] m m') (acc := []) (Nat.le_refl _) at_last
    ⟨Nat.zero_le _, by simp, rfl, (fun _ h => by cases h), (hm.of (List.getElem?_append_left hkf)).weak (by omega) (by omega), hw.of (List.getElem?_append_left hkw), .al _ _ _⟩ ?_ ?_
  · rintro i x m' acc ⟨j, hj, hij⟩ hk ⟨hi, hl', hal, hacc, hf', hw', hx'⟩
    have e1 : i = j := by omega
    subst e1
    have hjl := (rngL_at hj).2
    have hi6 : i + 1 ≤ 6 := by omega
    have ib : ((i : Int) + 1) * EB b ≤ 6 * EB b := Int.mul_le_mul_of_nonneg_right (by omega) (by omega)
    have ib2 : ((i : Int) + 1) * EB b = (i : Int) * EB b + EB b := by rw [Int.add_mul]; omega
    have g : ∀ k, k < 5 → ((wipeE r [s]).set s (some (.d x)))[k]? = r[k]? := fun k hk5 => by
      rw [List.getElem?_set_ne (by omega)]
      show (r.set s none)[k]? = _
      rw [List.getElem?_set_ne (by omega)]
    show Ok ((evE (callN T L) _ ((wipeE r [s]).set s (some (.d x))) m').bind _) _
    simp only [evE_call, evL_cons, evL_nil, evE_bin, evE_var, evE_cst, Ct_int, Ok_bind, Ok_ok, bind_ok, g 0 (by decide), g 1 (by decide), g 2 (by decide), g 3 (by decide), g 4 (by decide), h0, h1, h2, h3, h4, rd2_d, b_sub, opt_some, hb1]
    refine (IH _ m' bs times ro hR hf' hw' hb hbl ht0 ht (by omega)).mono ?_
    rintro v m2 ⟨e, rfl, he, hce, hf2, hw2, fr2⟩
    simp only [fz_d, Ok_ok]
    have hk2 : m2[m.length]? = some (.lst acc) := (fr2.2 _ (by simp; omega)).trans hk
    refine ⟨hk2, by omega, by rw [List.length_set, fr2.1, hl'], by simp [hal], fun z hz => ?_, ?_, ?_, ?_⟩
    · rcases List.mem_append.mp hz with hz | hz
      · exact hacc z hz
      · have : z = e := by simpa using hz
        subst this
        exact ⟨he, hce⟩
    · refine (hf2.of (List.getElem?_set_ne (by omega))).weak ?_ ?_
      · push_cast; omega
      · push_cast; omega
    · exact hw2.of (List.getElem?_set_ne (by omega))
    · exact (hx'.frm fr2 fun j h _ => h).set (.inl (Nat.le_refl _))
  · rintro m' acc hk ⟨hi, hl', hal, hacc, hf', hw', hx'⟩
    rw [Nat.zero_add, hl] at hal hf'
    have e : lcE false m.length m' = R.ok (.d (.list acc)) (m'.take m.length) := by
      unfold lcE
      rw [hk]
      rfl
    rw [e, Ok_ok]
    have mb : (many : Int) * EB b ≤ 6 * EB b := Int.mul_le_mul_of_nonneg_right (by omega) (by omega)
    exact hQ acc _ hal hacc ((hf'.take hkf).weak (by omega) hc) (hw'.of (at_take hkw)) hx'.done
end
end Mp
-- Ev16
set_option Elab.async false
set_option linter.all false
set_option maxRecDepth 100000
set_option maxHeartbeats 2000000
namespace Mp
open PySem L2
theorem cntL_le {N : Nat} : ∀ {es : List PyData}, (∀ e ∈ es, cnt e ≤ N) → cntL es ≤ es.length * N
  | [], _ => by simp [cntL]
  | e :: es, h => by
    have h1 := h e List.mem_cons_self
    have h2 := cntL_le fun y hy => h y (List.mem_cons_of_mem _ hy)
    rw [cntL, List.length_cons, Nat.succ_mul]; omega
theorem tr_mk {cs : Str → Nat → Prop} {w : W} {as ks : List PyData} {n N : Nat} {bs : List Str} (f : Form cs w as ks.length) (hs : ∀ x, w = .set_ → as = [.str x] → x ∉ bs) (hk : ∀ i a, ks[i]? = some a → Gd cs n (inb w as bs i) a ∧ cnt a ≤ N) : Gd cs (1 + n) bs (.tuple (.str w.s :: (as ++ ks))) ∧ cnt (.tuple (.str w.s :: (as ++ ks))) ≤ 1 + 6 * N := by
  rw [Nat.add_comm 1 n]
  refine ⟨.mk f hs fun i a h => (hk i a h).1, ?_⟩
  have es : cnt (.str w.s) = 0 := by rw [cnt]; intro xs h; cases h
  have e0 : cntL as = 0 := by
    have : ∀ l : List PyData, (∀ a ∈ l, cnt a = 0) → cntL l = 0 := by
      intro l
      induction l with
      | nil => intro _; rfl
      | cons x l ih => intro h; rw [cntL, h x List.mem_cons_self, ih fun y hy => h y (List.mem_cons_of_mem _ hy)]
    exact this as fun a ha => (f.flat a ha).2.2
  have h2 := cntL_le (N := N) (es := ks) fun a h => (List.getElem?_of_mem h).elim fun i hi => (hk i a hi).2
  have h3 : ks.length * N ≤ 6 * N := Nat.mul_le_mul_right _ f.small.2
  rw [cnt, cntL, cntL_app, es, e0]
  omega
theorem gd_all {cs : Str → Nat → Prop} {w : W} {as ks : List PyData} {n N : Nat} {bs : List Str} (hw : w ≠ .let_) (h : ∀ a ∈ ks, Gd cs n bs a ∧ cnt a ≤ N) : ∀ i a, ks[i]? = some a → Gd cs n (inb w as bs i) a ∧ cnt a ≤ N := fun i a e => by
  rw [inb_else hw]
  exact h a (List.mem_of_getElem? e)
theorem fnD_shp : ∀ {l : List (Str × Int)}, (∀ f ∈ l, Nw f.1) → Shp (l.map fnD) := by
  intro l h
  have q : PyData.canLayAll0 (l.map fnD) = true ∧ PyData.depthAll (l.map fnD) ≤ 1 := by
    induction l with
    | nil => exact ⟨rfl, Nat.zero_le _⟩
    | cons x l ih =>
      obtain ⟨h3, h4⟩ := ih fun y hy => h y (List.mem_cons_of_mem _ hy)
      have h5 := low_ok (h x List.mem_cons_self).1.1
      rw [List.map_cons, PyData.canLayAll0, PyData.depthAll, h3]
      show (PyData.canLay0 (.tuple [.str x.1, .int x.2]) && true) = true ∧ max (PyData.depth (.tuple [.str x.1, .int x.2])) _ ≤ 1
      rw [PyData.canLay0, PyData.canLayAll0, PyData.canLayAll0, PyData.canLayAll0, PyData.canLay0, PyData.canLay0, h5, PyData.depth, PyData.depthAll, PyData.depthAll, PyData.depthAll, PyData.depth, PyData.depth]
      exact ⟨rfl, by simp; omega⟩
  exact ⟨q.1, by omega⟩
section
variable {T : Str → Option Fn} {cs : Str → Nat → Prop} {L : Nat} {c : Int} {m : Mem} {kf kw : Nat} {D ro : Nat} {w : Wld} {bs : List Str}
/-- a leaf in an expression's place -/
theorem leaf_e {b d : Nat} {c' : Int} {m1 : Mem} (hT : Has T) (hL : 3 ≤ L) (hm1 : Fd c' m1 kf) (hd : 1 ≤ d) (hw1 : Wd ro w m1 kw) (ne : kw ≠ kf) (ok : WOk cs D w) (hb : ∀ x ∈ bs, Nw x) (hbl : bs.length ≤ 1000) (hc : c' + 4 ≤ c) (hc2 : c ≤ 2 ^ 62) (fr : Frm [kf, kw] m m1) :
    Ok (callN T L "_law_leaf" [.r kf, .r kw, .d (.list (bs.map .str))] m1) fun v m2 => Ok (fin false m.length (.rt v) m2) (exprQ cs d ro bs w b c m kf kw) :=
  (leaf_ok hL hT.draw hT.value hT.leaf hm1 hw1 ne ok hb hbl (by omega)).mono fun v m2 ⟨e, h1, h2, h3, h4, h5⟩ => by
    subst h1
    have fr := fr.trans (frm1 (kw := kw) h5)
    have hD := ok.D0
    simp only [fin_d, Ok_ok, take_same fr.1]
    exact ⟨e, rfl, h2.mono (fun _ _ h => h) hd, by rw [h3]; exact NB_pos b, h4.weak (by omega) hc2, hw1.frm h5 (by simpa using ne), fr⟩
theorem called_ok {b : Nat} {times : Int} (hT : Has T) (hL : 3 ≤ L) (IH : ExprAt T cs D w kf kw b L) (hb1 : 1 ≤ b) (hm : Fd c m kf) (hw : Wd ro w m kw) (hR : ro ≤ 40) (ne : kw ≠ kf) (ok : WOk cs D w) (hb : ∀ x ∈ bs, Nw x) (hbl : bs.length + b ≤ 890) (ht0 : 0 ≤ times) (ht : times * 10 ^ b < 10 ^ 15) (ht2 : times < 10 ^ 15) (hc : c + 10 + 6 * EB b ≤ 2 ^ 62) :
    Ok (callN T (L + 1) "_law_called" [.r kf, .r kw, .d (.list (bs.map .str)), .d (.int ((b : Int) + 1)), .d (.int times)] m) (exprQ cs (1 + dp D b ro) ro bs w (b + 1) (c + 10 + 6 * EB b) m kf kw) := by
  have hE := (EB_up b).1
  obtain ⟨room, toil, hw0, hr⟩ := hw
  have e0 := rd_at hw0
  have hsh := fnD_shp fun f hf => (ok.fs f hf).2.1
  have hfl := ok.fl
  have ot : okI times = true := okI_by (by omega) (by omega)
  have o30 : okI 30 = true := rfl
  refine call_ok hT.called rfl ?_
  generalize hbelow : (b : Int) + 1 = below
  show Ok (evB (callN T L) F_law_called.body [some (.r kf), some (.r kw), some (.d (.list (bs.map .str))), some (.d (.int below)), some (.d (.int times)), none, none, none, none] m) fun fl m1 => Ok (fin false m.length fl m1) _
  refine xB (x_ife ?_)
  simp only [evE_cmp, evE_idx, evE_var, evE_cst, Ct_str, evE_lst, evL_nil, fzL_nil, mkl_f, Ok_bind, Ok_ok, bind_ok, List.getElem?_cons_zero, List.getElem?_cons_succ, rd2, rd_d, e0, wd_functions, opt_some, eq_nil hsh, opB_some]
  refine ⟨_, rfl, fun hb2 => ?_, fun hb2 => x_nil ?_⟩
  · refine xB (x_ret ?_)
    simp only [evE_call, evL_cons, evL_nil, evE_var, Ok_bind, Ok_ok, bind_ok, List.getElem?_cons_zero, List.getElem?_cons_succ]
    exact leaf_e hT hL hm (by omega) ⟨room, toil, hw0, hr⟩ ne ok hb (by omega) (by omega) (by omega) (.refl _ _)
  · have hf0 : 0 < w.fs.length := by
      cases h : w.fs with
      | nil => rw [h] at hb2; cases hb2
      | cons _ _ => simp
    show Ok (evB (callN T L) (F_law_called.body.tl 1) [some (.r kf), some (.r kw), some (.d (.list (bs.map .str))), some (.d (.int below)), some (.d (.int times)), none, none, none, none] m) _
    refine xB ?_
    simp only [evS_unp, evE_idx, evE_call, evL_cons, evL_nil, evE_blt, evE_var, evE_cst, Ct_str, Ok_bind, Ok_ok, bind_ok, List.getElem?_cons_zero, List.getElem?_cons_succ, rd2, rd_d, e0, wd_functions, opt_some, bl_lenl, outM_val]
    refine (draw_L (by omega) hT.draw hm (by simp; omega) (by simp; omega) (by omega)).mono ?_
    rintro v m1 ⟨i, rfl, i0, i1, hm1, fr1⟩
    obtain ⟨z, ez, hz⟩ := atI_in i0 i1
    obtain ⟨⟨x, many⟩, hf, rfl⟩ := List.mem_map.mp hz
    obtain ⟨hx1, hx2, hx3, hx4⟩ := ok.fs _ hf
    obtain ⟨wk, hwk⟩ := ok.wl x _ hx1
    have hw1 := (fr1.2 kw (by simpa using ne)).trans hw0
    have e1 := rd_at hw1
    simp only at hx2 hx3 hx4
    obtain ⟨k, rfl⟩ : ∃ k : Nat, many = (k : Int) := ⟨many.toNat, by omega⟩
    have bt : bindT [some (.r kf), some (.r kw), some (.d (.list (bs.map .str))), some (.d (.int below)), some (.d (.int times)), none, none, none, none] (.t [6, 7]) (fnD (x, (k : Int))) = some [some (.r kf), some (.r kw), some (.d (.list (bs.map .str))), some (.d (.int below)), some (.d (.int times)), none, some (.d (.str x)), some (.d (.int (k : Int))), none] := rfl
    simp only [rd_d, i_list, ez, opt_some, Ok_ok, bt]
    refine xB (x_asg ?_)
    simp only [evE_bin, evE_idx, evE_var, evE_cst, Ct_str, Ok_bind, Ok_ok, List.getElem?_cons_zero, List.getElem?_cons_succ, rd2, rd_d, e1, wd_works, opt_some, List.set_cons_zero, List.set_cons_succ]
    rw [idx_dict, hwk]
    simp only [opt_some, Ok_ok, rd_d, b_mul_l ot]
    generalize times * wk = cost
    refine xB (x_ife ?_)
    simp only [evE_cmp, evE_bin, evE_idx, evE_var, evE_cst, Ct_str, Ct_int, Ok_bind, Ok_ok, List.getElem?_cons_zero, List.getElem?_cons_succ, rd2, rd_d, e1, wd_toil, opt_some, b_mul_l o30, b_add, c_lt, opB_some]
    refine ⟨_, rfl, fun hb3 => ?_, fun hb3 => x_nil ?_⟩
    · refine xB (x_ret ?_)
      simp only [evE_call, evL_cons, evL_nil, evE_var, Ok_bind, Ok_ok, bind_ok, List.getElem?_cons_zero, List.getElem?_cons_succ]
      exact leaf_e hT hL hm1 (by omega) ⟨room, toil, hw1, hr⟩ ne ok hb (by omega) (by omega) (by omega) (frm1 fr1)
    · show Ok (evB (callN T L) (F_law_called.body.tl 4) [some (.r kf), some (.r kw), some (.d (.list (bs.map .str))), some (.d (.int below)), some (.d (.int times)), some (.d (.int cost)), some (.d (.str x)), some (.d (.int (k : Int))), none] m1) _
      refine xB (x_put (k := kw) rfl ?_)
      simp only [evE_bin, evE_idx, evE_var, evE_cst, Ct_str, Ok_bind, Ok_ok, List.getElem?_cons_zero, List.getElem?_cons_succ, rd2, rd_d, e1, wd_toil, opt_some, b_sub]
      refine ⟨_, _, rfl, hw1, wd_len, fun m2 hk2 hl2 hf2 => ?_⟩
      rw [wd_ptoil] at hk2
      have fr2 : Frm [kf, kw] m m2 := ⟨by rw [hl2, fr1.1], fun j hj => (hf2 j fun h => hj (by simp [h])).trans (fr1.2 j fun h => hj (by simp at h; simp [h]))⟩
      have hm2 : Fd (c + 1) m2 kf := hm1.of (hf2 kf (Ne.symm ne))
      refine xB (x_ret ?_)
      rw [evE_blt, Ok_bind, evE_bin, Ok_bind]
      simp only [evE_lst, evL_cons, evL_nil, evE_cst, Ct_str, evE_var, Ok_bind, Ok_ok, bind_ok, List.getElem?_cons_zero, List.getElem?_cons_succ, fzL_cons, fzL_nil, fz_d, mkl_f]
      refine kids_ok (many := k) IH (by decide) (by omega) rfl rfl rfl rfl rfl rfl (by omega) hm2 ⟨_, _, hk2, hr⟩ hR hb hbl ht0 ht (by omega) fun es m3 hel hes hm3 hw3 fr3 => ?_
      have fr := fr2.trans fr3
      simp only [rd2_d, b_addl (small (show ([PyData.str (W.s .call_), PyData.str x] : List PyData).length + es.length ≤ 1000000 by simp; omega)), opt_some, rd_d, bl_tupl, outM_val, Ok_ok, fin_d, take_same fr.1, lit_call]
      have he6 : es.length ≤ 6 := by omega
      obtain ⟨q1, q2⟩ := tr_mk (w := .call_) (as := [.str x]) (.call x es.length (by rw [hel]; exact hx1) hx2 he6) (fun _ h => by cases h) (gd_all (by decide) hes)
      exact ⟨_, rfl, q1, Nat.le_trans q2 (NB_up b hb1).1, hm3.weak (by omega) (by omega), hw3, fr⟩
end
end Mp
-- Ev17
set_option Elab.async false
set_option linter.all false
set_option maxRecDepth 100000
set_option maxHeartbeats 2000000
namespace Mp
open PySem L2
section
variable {T : Str → Option Fn} {cs : Str → Nat → Prop} {L : Nat} {c : Int} {m : Mem} {kf kw : Nat} {D ro : Nat} {w : Wld} {bs : List Str}
def keepS (p : Str → Bool) : PyData → Option PyData
  | .str y => if p y then some (.str y) else none
  | _ => none
theorem fm_strs (p : Str → Bool) : ∀ xs : List Str, (xs.map PyData.str).filterMap (keepS p) = (xs.filter p).map .str
  | [] => rfl
  | x :: xs => by
    rw [List.map_cons, List.filter_cons]
    cases h : p x with
    | true => rw [List.filterMap_cons_some (b := PyData.str x) (by simp [keepS, h]), fm_strs p xs]; rfl
    | false => rw [List.filterMap_cons_none (by simp [keepS, h]), fm_strs p xs]; rfl
theorem bound_ok {b : Nat} {times : Int} {kd : Str} (hT : Has T) (hL : 3 ≤ L) (IH : ExprAt T cs D w kf kw b L) (hb1 : 1 ≤ b) (hm : Fd c m kf) (hw : Wd ro w m kw) (hR : ro ≤ 40) (ne : kw ≠ kf) (ok : WOk cs D w) (hb : ∀ x ∈ bs, Nw x) (hbl : bs.length + b + 1 ≤ 890) (ht0 : 0 ≤ times) (ht : times * 10 ^ b < 10 ^ 15) (hc : c + 10 + 6 * EB b ≤ 2 ^ 62) :
    Ok (callN T (L + 1) "_law_bound" [.r kf, .r kw, .d (.list (bs.map .str)), .d (.int ((b : Int) + 1)), .d (.int times), .d (.str kd)] m) (exprQ cs (1 + dp D b ro) ro bs w (b + 1) (c + 10 + 6 * EB b) m kf kw) := by
  have hE := (EB_up b).1
  have hw' := hw
  obtain ⟨room, toil, hw0, hr⟩ := hw
  have e0 := rd_at hw0
  refine call_ok hT.bound rfl ?_
  have hbel : (b : Int) + 1 - 1 = (b : Int) := by omega
  generalize (b : Int) + 1 = below at hbel
  show Ok (evB (callN T L) F_law_bound.body [some (.r kf), some (.r kw), some (.d (.list (bs.map .str))), some (.d (.int below)), some (.d (.int times)), some (.d (.str kd)), none, none, none] m) fun fl m1 => Ok (fin false m.length fl m1) _
  -- one more expression
  have ex : ∀ (c' : Int) (m1 : Mem) (bs' : List Str), c' + EB b ≤ 2 ^ 62 → Fd c' m1 kf → Wd ro w m1 kw → (∀ x ∈ bs', Nw x) → bs'.length + b ≤ 890 → Ok (callN T L "_law_expr" [.r kf, .r kw, .d (.list (bs'.map .str)), .d (.int (b : Int)), .d (.int times)] m1) (exprQ cs (dp D b ro) ro bs' w b (c' + EB b) m1 kf kw) :=
    fun c' m1 bs' h1 h2 h3 h4 h5 => IH c' m1 bs' times ro hR h2 h3 h4 h5 ht0 ht h1
  have one : ∀ {x : Str} {e : PyData}, Nw x → x ∉ bs → Gd cs (dp D b ro) bs e → cnt e ≤ NB b → Gd cs (1 + dp D b ro) bs (.tuple [.str (W.s .set_), .str x, e]) ∧ cnt (.tuple [.str (W.s .set_), .str x, e]) ≤ NB (b + 1) := fun {x e} hx hxb he hce => by
    obtain ⟨q1, q2⟩ := tr_mk (cs := cs) (w := .set_) (as := [.str x]) (ks := [e]) (.set x hx) (bs := bs) (n := dp D b ro) (N := NB b) (fun y _ e => by cases e; exact hxb) (gd_all (by decide) fun a h => by
      have : a = e := by simpa using h
      rw [this]; exact ⟨he, hce⟩)
    exact ⟨q1, Nat.le_trans q2 (NB_up b hb1).1⟩
  have say : Ok (evB (callN T L) (F_law_bound.body.tl 3) [some (.r kf), some (.r kw), some (.d (.list (bs.map .str))), some (.d (.int below)), some (.d (.int times)), some (.d (.str kd)), some (.d (.list ((w.ns.filter fun x => !decide (x ∈ bs)).map .str))), none, none] m) fun fl m1 => Ok (fin false m.length fl m1) (exprQ cs (1 + dp D b ro) ro bs w (b + 1) (c + 10 + 6 * EB b) m kf kw) := by
    refine xB (x_ret ?_)
    simp only [evE_tup, evL_cons, evL_nil, evE_call, evE_bin, evE_var, evE_cst, Ct_str, Ct_int, Ok_bind, Ok_ok, bind_ok, List.getElem?_cons_zero, List.getElem?_cons_succ, rd2_d, b_sub, opt_some, hbel]
    refine (ex c m bs (by omega) hm hw' hb (by omega)).mono ?_
    rintro v m1 ⟨e, rfl, he, hce, hf1, hw1, fr1⟩
    simp only [fzL_cons, fzL_nil, fz_d, bind_ok, Ok_bind, Ok_ok, fin_d, take_same fr1.1, lit_say]
    obtain ⟨q1, q2⟩ := tr_mk (cs := cs) (w := .say_) (as := []) (ks := [e]) .say (bs := bs) (n := dp D b ro) (N := NB b) (fun _ h => by cases h) (gd_all (by decide) fun a h => by
      have : a = e := by simpa using h
      rw [this]; exact ⟨he, hce⟩)
    exact ⟨_, rfl, q1, Nat.le_trans q2 (NB_up b hb1).1, hf1.weak (by omega) (by omega), hw1, fr1⟩
  refine xB (x_asg ?_)
  refine x_lci (keepS fun x => !decide (x ∈ bs)) ?_
  simp only [evI_e, evE_idx, evE_var, evE_cst, Ct_str, Ok_bind, Ok_ok, bind_ok, List.getElem?_cons_zero, List.getElem?_cons_succ, rd2, rd_d, e0, wd_names, opt_some, fz_d]
  refine .of ⟨fun a ha acc => ⟨_, rfl, ?_⟩, ?_⟩
  · obtain ⟨y, hy, rfl⟩ := List.mem_map.mp ha
    show Ok (evE (callN T L) (.cmp .nin (.var 7) (.var 2)) [some (.r kf), some (.r kw), some (.d (.list (bs.map .str))), some (.d (.int below)), some (.d (.int times)), some (.d (.str kd)), none, some (.d (.str y)), none] (m ++ [Cell.lst acc])) _
    simp only [evE_cmp, evE_var, Ok_bind, Ok_ok, List.getElem?_cons_zero, List.getElem?_cons_succ, rd2_d, nin_strs, opB_some]
    refine ⟨True.intro, _, rfl, fun h => by simp [keepS, h], fun h => ?_⟩
    show Ok (evE (callN T L) (.var 7) [some (.r kf), some (.r kw), some (.d (.list (bs.map .str))), some (.d (.int below)), some (.d (.int times)), some (.d (.str kd)), none, some (.d (.str y)), none] (m ++ [Cell.lst acc])) _
    simp only [evE_var, Ok_ok, List.getElem?_cons_zero, List.getElem?_cons_succ]
    exact ⟨_, rfl, by simp [keepS, h], True.intro⟩
  · rw [fm_strs (fun x => !decide (x ∈ bs))]
    simp only [Bool.false_eq_true, if_false]
    generalize hso : w.ns.filter (fun x => !decide (x ∈ bs)) = so at say
    have hsl : so.length ≤ 100 := by rw [← hso]; exact Nat.le_trans (List.length_filter_le ..) ok.nl
    have hsn : ∀ x ∈ so, Nw x ∧ x ∉ bs := fun x hx => by
      rw [← hso] at hx
      exact ⟨ok.ns x (List.mem_filter.mp hx).1, by simpa using (List.mem_filter.mp hx).2⟩
    have hsh : Shp (so.map .str) := .strs fun x h => (hsn x h).1.1.1
    show Ok (evB (callN T L) (F_law_bound.body.tl 1) [some (.r kf), some (.r kw), some (.d (.list (bs.map .str))), some (.d (.int below)), some (.d (.int times)), some (.d (.str kd)), some (.d (.list (so.map .str))), none, none] m) _
    have two : Ok (evB (callN T L) (F_law_bound.body.tl 2) [some (.r kf), some (.r kw), some (.d (.list (bs.map .str))), some (.d (.int below)), some (.d (.int times)), some (.d (.str kd)), some (.d (.list (so.map .str))), none, none] m) fun fl m1 => Ok (fin false m.length fl m1) (exprQ cs (1 + dp D b ro) ro bs w (b + 1) (c + 10 + 6 * EB b) m kf kw) := by
      refine xB (x_ife ?_)
      simp only [evE_cmp, evE_var, evE_cst, Ct_str, Ok_bind, Ok_ok, List.getElem?_cons_zero, List.getElem?_cons_succ, rd2_d, c_eqs, opB_some]
      refine ⟨_, rfl, fun _ => ?_, fun _ => x_nil say⟩
      have hnl := ok.nl
      have hll := ok.ll
      have e1 : w.ns.map PyData.str ++ w.ls.map .str = (w.ns ++ w.ls).map .str := by simp
      have hall : ∀ x ∈ w.ns ++ w.ls, Nw x := low_add ok.ns ok.ls
      have hn0 : 0 < w.ns.length := by cases h : w.ns with | nil => exact absurd h ok.n0 | cons _ _ => simp
      refine xB (x_asg ?_)
      simp only [evE_bin, evE_idx, evE_var, evE_cst, Ct_str, Ok_bind, Ok_ok, List.getElem?_cons_zero, List.getElem?_cons_succ, List.set_cons_zero, List.set_cons_succ, rd2, rd_d, e0, wd_names, wd_lets, opt_some, b_addl (small (show (w.ns.map PyData.str).length + (w.ls.map PyData.str).length ≤ 1000000 by simp; omega)), e1]
      have hzl : 0 < (w.ns ++ w.ls).length ∧ (w.ns ++ w.ls).length ≤ 200 := by rw [List.length_append]; omega
      generalize w.ns ++ w.ls = ps at hall hzl
      refine xB (x_asg ?_)
      simp only [evE_idx, evE_call, evL_cons, evL_nil, evE_blt, evE_var, Ok_bind, Ok_ok, bind_ok, List.getElem?_cons_zero, List.getElem?_cons_succ, List.set_cons_zero, List.set_cons_succ, rd_d, bl_lenl, outM_val]
      refine (draw_L (by omega) hT.draw hm (by simp; omega) (by simp; omega) (by omega)).mono ?_
      rintro v m1 ⟨i, rfl, i0, i1, hm1, fr1⟩
      obtain ⟨z, ez, hzm⟩ := atI_in i0 i1
      obtain ⟨x, hx, rfl⟩ := List.mem_map.mp hzm
      simp only [rd2_d, i_list, ez, opt_some, Ok_ok]
      refine xB (x_asg ?_)
      simp only [evE_call, evL_cons, evL_nil, evE_bin, evE_var, evE_cst, Ct_int, Ok_bind, Ok_ok, bind_ok, List.getElem?_cons_zero, List.getElem?_cons_succ, List.set_cons_zero, List.set_cons_succ, rd2_d, b_sub, opt_some, hbel]
      refine (ex (c + 1) m1 bs (by omega) hm1 (hw'.frm fr1 (by simpa using ne)) hb (by omega)).mono ?_
      rintro v m2 ⟨e, rfl, he, hce, hf2, hw2, fr2⟩
      refine xB (x_ret ?_)
      have e2 : bs.map PyData.str ++ [PyData.str x] = (bs ++ [x]).map .str := by simp
      simp only [evE_tup, evL_cons, evL_nil, evE_call, evE_bin, evE_lst, evE_var, evE_cst, Ct_str, Ct_int, fzL_cons, fzL_nil, fz_d, mkl_f, Ok_bind, Ok_ok, bind_ok, List.getElem?_cons_zero, List.getElem?_cons_succ, List.set_cons_zero, List.set_cons_succ, rd2_d, b_sub, opt_some, hbel, b_addl (small (show (bs.map PyData.str).length + [PyData.str x].length ≤ 1000000 by simp; omega)), e2]
      refine (ex (c + 1 + EB b) m2 (bs ++ [x]) (by omega) hf2 hw2 (low_add hb (by simpa using hall x hx)) (by simp; omega)).mono ?_
      rintro v m3 ⟨e', rfl, he', hce', hf3, hw3, fr3⟩
      have fr := (frm1 (kw := kw) fr1).trans (fr2.trans fr3)
      simp only [fz_d, bind_ok, Ok_bind, Ok_ok, fin_d, take_same fr.1, lit_let]
      obtain ⟨q1, q2⟩ := tr_mk (cs := cs) (w := .let_) (as := [.str x]) (ks := [e, e']) (.let x (hall x hx)) (bs := bs) (n := dp D b ro) (N := NB b) (fun _ h => by cases h) fun i a h => by
        match i, h with
        | 0, h => cases h; exact ⟨he, hce⟩
        | 1, h => cases h; exact ⟨he', hce'⟩
        | i + 2, h => simp at h
      exact ⟨_, rfl, q1, Nat.le_trans q2 (NB_up b hb1).1, hf3.weak (by omega) (by omega), hw3, fr⟩
    refine xB (x_ife ?_)
    simp only [evE_and, evAnd_cons, evAnd_one, evE_cmp, evE_var, evE_cst, Ct_str, evE_lst, evL_nil, fzL_nil, mkl_f, Ok_bind, Ok_ok, bind_ok, List.getElem?_cons_zero, List.getElem?_cons_succ, rd2_d, c_eqs, opB_some, asB_b]
    by_cases hk : kd = "set"
    · simp only [hk, decide_true, evAnd_one, evE_cmp, evE_var, evE_lst, evL_nil, fzL_nil, mkl_f, Ok_bind, Ok_ok, bind_ok, List.getElem?_cons_zero, List.getElem?_cons_succ, rd2_d, ne_nil hsh, opB_some, asB_b]
      subst hk
      refine ⟨_, rfl, fun h => ?_, fun h => x_nil two⟩
      have hs0 : 0 < so.length := by cases so <;> first | (cases h; done) | simp
      refine xB (x_asg ?_)
      simp only [evE_idx, evE_call, evL_cons, evL_nil, evE_blt, evE_var, Ok_bind, Ok_ok, bind_ok, List.getElem?_cons_zero, List.getElem?_cons_succ, List.set_cons_zero, List.set_cons_succ, rd_d, bl_lenl, outM_val]
      refine (draw_L (by omega) hT.draw hm (by simp; omega) (by simp; omega) (by omega)).mono ?_
      rintro v m1 ⟨i, rfl, i0, i1, hm1, fr1⟩
      obtain ⟨z, ez, hzm⟩ := atI_in i0 i1
      obtain ⟨x, hx, rfl⟩ := List.mem_map.mp hzm
      simp only [rd2_d, i_list, ez, opt_some, Ok_ok]
      refine xB (x_ret ?_)
      simp only [evE_tup, evL_cons, evL_nil, evE_call, evE_bin, evE_var, evE_cst, Ct_str, Ct_int, Ok_bind, Ok_ok, bind_ok, List.getElem?_cons_zero, List.getElem?_cons_succ, List.set_cons_zero, List.set_cons_succ, rd2_d, b_sub, opt_some, hbel]
      refine (ex (c + 1) m1 bs (by omega) hm1 (hw'.frm fr1 (by simpa using ne)) hb (by omega)).mono ?_
      rintro v m2 ⟨e, rfl, he, hce, hf2, hw2, fr2⟩
      have fr := (frm1 (kw := kw) fr1).trans fr2
      simp only [fzL_cons, fzL_nil, fz_d, bind_ok, Ok_bind, Ok_ok, fin_d, take_same fr.1, lit_set]
      obtain ⟨q1, q2⟩ := one (hsn x hx).1 (hsn x hx).2 he hce
      exact ⟨_, rfl, q1, q2, hf2.weak (by omega) (by omega), hw2, fr⟩
    · simp only [hk, decide_false, Ok_ok]
      exact ⟨_, rfl, (fun h => by cases h), fun h => x_nil two⟩
end
end Mp
-- Ev18
set_option Elab.async false
set_option linter.all false
set_option maxRecDepth 100000
set_option maxHeartbeats 2000000
namespace Mp
open PySem L2
def Sxs.th : Sxs → Sxs
  | .cons (.ife _ a _) _ => a
  | b => b
def kinds14 : List Str := ["op", "op", "copy", "pick", "let", "set", "say", "do", "again", "call", "copy", "op", "leaf", "let"]
theorem in3 {y a b c : Str} : cmpop .inn (.str y) (.tuple [.str a, .str b, .str c]) = some (decide (y ∈ [a, b, c])) := in_tup (xs := [a, b, c])
theorem sg_ix {i : Int} (h0 : 0 ≤ i) (h : i < 6) : ∃ x, x ∈ sgs ∧ idxop (.str "+-*/<=") (.int i) = some (.str x) := by
  have q : ∀ j : Fin 6, ∃ x, x ∈ sgs ∧ idxop (.str "+-*/<=") (.int ((j : Nat) : Int)) = some (.str x) := by
    intro j
    have : ∀ j : Fin 6, (match idxop (.str "+-*/<=") (.int ((j : Nat) : Int)) with | some (.str x) => decide (x ∈ sgs) | _ => false) = true := by decide +kernel
    have h := this j
    split at h
    · rename_i x e
      exact ⟨x, of_decide_eq_true h, e⟩
    · cases h
  obtain ⟨x, h1, h2⟩ := q ⟨i.toNat, by omega⟩
  refine ⟨x, h1, ?_⟩
  rw [← h2]
  congr 2
  simp
  omega
section
variable {T : Str → Option Fn} {cs : Str → Nat → Prop} {kf kw : Nat} {D : Nat} {w : Wld}
theorem expr_step (hT : Has T) (ne : kw ≠ kf) (ok : WOk cs D w) (b L : Nat) (hL : D + 8 ≤ L) (IH : ∀ b', b = b' + 1 → ∀ L', L ≤ L' → ExprAt T cs D w kf kw b' L') : ExprAt T cs D w kf kw b (L + 2) := by
  intro c m bs times ro hR hm hw hb hbl ht0 ht hc
  have hE := (EB_up b).1
  have ht2 : times < 10 ^ 15 := by
    have h1 : (1 : Int) ≤ 10 ^ b := by
      have : 1 ≤ 10 ^ b := Nat.one_le_pow _ _ (by decide)
      exact_mod_cast this
    have : times * 1 ≤ times * 10 ^ b := Int.mul_le_mul_of_nonneg_left h1 ht0
    omega
  have o30 : okI 30 = true := rfl
  obtain ⟨room, toil, hw0, hr⟩ := hw
  have e0 := rd_at hw0
  refine call_ok hT.expr rfl ?_
  generalize hbelow : (b : Int) = below
  show Ok (evB (callN T (L + 1)) F_law_expr.body [some (.r kf), some (.r kw), some (.d (.list (bs.map .str))), some (.d (.int below)), some (.d (.int times)), none, none, none, none, none] m) fun fl m1 => Ok (fin false m.length fl m1) _
  refine xB (x_put (k := kw) rfl ?_)
  simp only [evE_bin, evE_idx, evE_var, evE_cst, Ct_str, Ct_int, Ok_bind, Ok_ok, List.getElem?_cons_zero, List.getElem?_cons_succ, rd2, rd_d, e0, wd_room, opt_some, b_sub]
  refine ⟨_, _, rfl, hw0, wd_len, fun m1 hk1 hl1 hf1 => ?_⟩
  rw [wd_proom] at hk1
  have e1 := rd_at hk1
  refine xB (x_put (k := kw) rfl ?_)
  simp only [evE_bin, evE_idx, evE_var, evE_cst, Ct_str, Ct_int, Ok_bind, Ok_ok, List.getElem?_cons_zero, List.getElem?_cons_succ, rd2, rd_d, e1, wd_toil, opt_some, b_sub]
  refine ⟨_, _, rfl, hk1, wd_len, fun m2 hk2 hl2 hf2 => ?_⟩
  rw [wd_ptoil] at hk2
  have fr2 : Frm [kf, kw] m m2 := ⟨by rw [hl2, hl1], fun j hj => (hf2 j fun h => hj (by simp [h])).trans (hf1 j fun h => hj (by simp [h]))⟩
  have hm2 : Fd c m2 kf := hm.of ((hf2 kf (Ne.symm ne)).trans (hf1 kf (Ne.symm ne)))
  generalize toil - times = toil2 at hk2
  refine xB (x_asg ?_)
  simp only [evE_lst, evL_cons, evL_nil, evE_cst, Ct_str, fzL_cons, fzL_nil, fz_d, mkl_f, Ok_bind, Ok_ok, bind_ok, List.set_cons_succ, List.set_cons_zero]
  refine xB (x_asg ?_)
  simp only [evE_idx, evE_call, evL_cons, evL_nil, evE_var, evE_cst, Ct_int, Ok_bind, Ok_ok, bind_ok, List.getElem?_cons_zero, List.getElem?_cons_succ]
  refine (draw_L (by omega) hT.draw hm2 (by decide) (by decide) (by omega)).mono ?_
  rintro v m3 ⟨i, rfl, i0, i1, hm3, fr3⟩
  obtain ⟨z, ez, hz⟩ := atI_in (xs := kinds14.map PyData.str) i0 i1
  obtain ⟨kd, hkd, rfl⟩ := List.mem_map.mp hz
  simp only [kinds14, List.map_cons, List.map_nil] at ez
  simp only [rd2_d, i_list, ez, opt_some, Ok_ok, List.set_cons_succ, List.set_cons_zero]
  clear ez hz hkd
  have hk3 := (fr3.2 kw (by simpa using ne)).trans hk2
  have e3 := rd_at hk3
  have fr03 := fr2.trans (frm1 (kw := kw) fr3)
  have hw3 : Wd (ro - 1) w m3 kw := ⟨_, _, hk3, by omega⟩
  have hdp := dp_pos D b ro
  show Ok (evB (callN T (L + 1)) (F_law_expr.body.tl 4) [some (.r kf), some (.r kw), some (.d (.list (bs.map .str))), some (.d (.int below)), some (.d (.int times)), some (.d (.list (kinds14.map .str))), some (.d (.str kd)), none, none, none] m3) fun fl m1 => Ok (fin false m.length fl m1) _
  generalize PyData.list (kinds14.map .str) = K5
  refine xB (x_ife ?_)
  have cnd : Ok (evE (callN T (L + 1)) (.or (.cons (.cmp .lt (.var 3) (.cst (.int 2))) (.cons (.cmp .lt (.idx (.var 1) (.cst (.str "room"))) (.cst (.int 6))) (.cons (.cmp .lt (.idx (.var 1) (.cst (.str "toil"))) (.bin .mul (.cst (.int 30)) (.var 4))) (.cons (.cmp .eq (.var 6) (.cst (.str "leaf"))) .nil))))) [some (.r kf), some (.r kw), some (.d (.list (bs.map .str))), some (.d (.int below)), some (.d (.int times)), some (.d K5), some (.d (.str kd)), none, none, none] m3) fun v m4 => m4 = m3 ∧ ∃ g : Bool, v = .d (.bool g) ∧ (g = false → 2 ≤ below ∧ 6 ≤ room - 1) := by
    simp only [evE_or, evOr_cons, evE_cmp, evE_var, evE_cst, Ct_int, Ok_bind, Ok_ok, List.getElem?_cons_zero, List.getElem?_cons_succ, rd2_d, c_lt, opB_some, asB_b]
    by_cases h1 : below < 2
    · simp only [h1, decide_true, Ok_ok]
      exact ⟨True.intro, _, rfl, fun h => by cases h⟩
    · simp only [h1, decide_false, evOr_cons, evE_cmp, evE_idx, evE_var, evE_cst, Ct_int, Ct_str, Ok_bind, Ok_ok, List.getElem?_cons_zero, List.getElem?_cons_succ, rd2, rd_d, e3, wd_room, opt_some, c_lt, opB_some, asB_b]
      by_cases h2 : room - 1 < 6
      · simp only [h2, decide_true, Ok_ok]
        exact ⟨True.intro, _, rfl, fun h => by cases h⟩
      · simp only [h2, decide_false, evOr_cons, evOr_one, evE_cmp, evE_bin, evE_idx, evE_var, evE_cst, Ct_int, Ct_str, Ok_bind, Ok_ok, List.getElem?_cons_zero, List.getElem?_cons_succ, rd2, rd_d, e3, wd_toil, opt_some, b_mul_l o30, c_lt, opB_some, asB_b]
        by_cases h3 : toil2 < 30 * times
        · simp only [h3, decide_true, Ok_ok]
          exact ⟨True.intro, _, rfl, fun h => by cases h⟩
        · simp only [h3, decide_false, evOr_one, evE_cmp, evE_var, evE_cst, Ct_str, Ok_bind, Ok_ok, List.getElem?_cons_zero, List.getElem?_cons_succ, rd2, rd_d, c_eqs, opB_some, asB_b, Ok_ok]
          exact ⟨True.intro, _, rfl, fun _ => ⟨by omega, by omega⟩⟩
  refine cnd.mono ?_
  rintro v m4 ⟨rfl, g, rfl, hg⟩
  refine ⟨g, rfl, fun _ => ?_, fun hg0 => x_nil ?_⟩
  · refine xB (x_ret ?_)
    simp only [evE_call, evL_cons, evL_nil, evE_var, Ok_bind, Ok_ok, bind_ok, List.getElem?_cons_zero, List.getElem?_cons_succ]
    exact (leaf_e hT (by omega) hm3 hdp hw3 ne ok hb (by omega) (by omega) (by omega) fr03).mono fun v m5 h => h.mono fun v m6 ⟨e, h1, h2, h3, h4, h5, h6⟩ => ⟨e, h1, h2, h3, h4, h5.up (by omega), h6⟩
  · obtain ⟨hb2, hro6⟩ := hg hg0
    obtain ⟨b', rfl, hb1⟩ : ∃ b', b = b' + 1 ∧ 1 ≤ b' := ⟨b - 1, by omega, by omega⟩
    have IH' := IH b' rfl
    have ht3 : times * 10 ^ b' * 10 < 10 ^ 15 := by rw [Int.pow_succ, ← Int.mul_assoc] at ht; exact ht
    have htp : 0 ≤ times * 10 ^ b' := Int.mul_nonneg ht0 (by have : (0 : Int) ≤ 10 ^ b' := Int.pow_nonneg (by decide); exact this)
    have ht4 : times * 10 ^ b' < 10 ^ 15 := by omega
    have hE1 := (EB_up b').1
    have hE2 := (EB_up b').2
    have hbel : below = (b' : Int) + 1 := by omega
    have hdd : 1 + dp D b' (ro - 1) ≤ dp D (b' + 1) ro ∧ D ≤ dp D (b' + 1) ro := by
      obtain ⟨b2, rfl⟩ : ∃ b2, b' = b2 + 1 := ⟨b' - 1, by omega⟩
      show _ ≤ (if ro ≤ 6 then 1 else max D (1 + dp D (b2 + 1) (ro - 1))) ∧ _ ≤ (if ro ≤ 6 then 1 else max D (1 + dp D (b2 + 1) (ro - 1)))
      rw [if_neg (by omega)]
      omega
    obtain ⟨hdd, hdD⟩ := hdd
    have wrapQ : ∀ {d1 : Nat}, d1 ≤ dp D (b' + 1) ro → ∀ {c' : Int} {m1 : Mem} {L' : Nat} {f : Str} {vs : List Vl}, c' ≤ c + EB (b' + 1) → Frm [kf, kw] m m1 → Ok (callN T L' f vs m1) (exprQ cs d1 (ro - 1) bs w (b' + 1) c' m1 kf kw) → Ok (callN T L' f vs m1) fun v m2 => Ok (fin false m.length (.rt v) m2) (exprQ cs (dp D (b' + 1) ro) ro bs w (b' + 1) (c + EB (b' + 1)) m kf kw) := fun {d1} hd1 {c' m1 L' f vs} hc' fr h =>
      h.mono fun v m2 ⟨e, h1, h2, h3, h4, h5, h6⟩ => by
        subst h1
        have fr := fr.trans h6
        simp only [fin_d, Ok_ok, take_same fr.1]
        exact ⟨e, rfl, h2.mono (fun _ _ h => h) hd1, h3, h4.weak hc' hc, h5.up (by omega), fr⟩
    show Ok (evB (callN T (L + 1)) (F_law_expr.body.tl 5) [some (.r kf), some (.r kw), some (.d (.list (bs.map .str))), some (.d (.int below)), some (.d (.int times)), some (.d K5), some (.d (.str kd)), none, none, none] m4) fun fl m1 => Ok (fin false m.length fl m1) _
    refine xB (x_ife ?_)
    simp only [evE_cmp, evE_var, evE_cst, Ct_str, Ok_bind, Ok_ok, List.getElem?_cons_zero, List.getElem?_cons_succ, rd2_d, c_eqs, opB_some]
    refine ⟨_, rfl, fun _ => ?_, fun _ => x_nil ?_⟩
    · refine xB (x_ret ?_)
      simp only [evE_call, evL_cons, evL_nil, evE_var, Ok_bind, Ok_ok, bind_ok, List.getElem?_cons_zero, List.getElem?_cons_succ]
      refine wrapQ hdD (c' := c + 1 + 13) (by omega) fr03 ?_
      refine (copied_ok hT (by omega) hm3 hw3 (by omega) ne ok hb (by omega) ht0 (by omega) (by omega)).mono fun v m5 ⟨e, h1, h2, h3, h4, h5, h6⟩ => ?_
      exact ⟨e, h1, h2, Nat.le_trans h3 (NB_up b' hb1).2, h4, h5, h6⟩
    show Ok (evB (callN T (L + 1)) (F_law_expr.body.tl 6) [some (.r kf), some (.r kw), some (.d (.list (bs.map .str))), some (.d (.int below)), some (.d (.int times)), some (.d K5), some (.d (.str kd)), none, none, none] m4) fun fl m1 => Ok (fin false m.length fl m1) _
    refine xB (x_ife ?_)
    simp only [evE_cmp, evE_var, evE_cst, Ct_str, Ok_bind, Ok_ok, List.getElem?_cons_zero, List.getElem?_cons_succ, rd2_d, c_eqs, opB_some]
    refine ⟨_, rfl, fun _ => ?_, fun _ => x_nil ?_⟩
    · refine xB (x_ret ?_)
      simp only [evE_call, evL_cons, evL_nil, evE_var, Ok_bind, Ok_ok, bind_ok, List.getElem?_cons_zero, List.getElem?_cons_succ, hbel]
      exact wrapQ hdd (by omega) fr03 (called_ok hT (by omega) (IH' L (Nat.le_refl _)) hb1 hm3 hw3 (by omega) ne ok hb (by omega) ht0 ht4 ht2 (by omega))
    show Ok (evB (callN T (L + 1)) (F_law_expr.body.tl 7) [some (.r kf), some (.r kw), some (.d (.list (bs.map .str))), some (.d (.int below)), some (.d (.int times)), some (.d K5), some (.d (.str kd)), none, none, none] m4) fun fl m1 => Ok (fin false m.length fl m1) _
    refine xB (x_ife ?_)
    simp only [evE_cmp, evE_tup, evL_cons, evL_nil, evE_var, evE_cst, Ct_str, fzL_cons, fzL_nil, fz_d, bind_ok, Ok_bind, Ok_ok, List.getElem?_cons_zero, List.getElem?_cons_succ, rd2_d, in3, opB_some]
    refine ⟨_, rfl, fun _ => ?_, fun _ => x_nil ?_⟩
    · refine xB (x_ret ?_)
      simp only [evE_call, evL_cons, evL_nil, evE_var, Ok_bind, Ok_ok, bind_ok, List.getElem?_cons_zero, List.getElem?_cons_succ, hbel]
      exact wrapQ hdd (by omega) fr03 (bound_ok hT (by omega) (IH' L (Nat.le_refl _)) hb1 hm3 hw3 (by omega) ne ok hb (by omega) ht0 ht4 (by omega))
    show Ok (evB (callN T (L + 1)) (F_law_expr.body.tl 8) [some (.r kf), some (.r kw), some (.d (.list (bs.map .str))), some (.d (.int below)), some (.d (.int times)), some (.d K5), some (.d (.str kd)), none, none, none] m4) fun fl m1 => Ok (fin false m.length fl m1) _
    refine xB (x_ife ?_)
    simp only [evE_cmp, evE_var, evE_cst, Ct_str, Ok_bind, Ok_ok, List.getElem?_cons_zero, List.getElem?_cons_succ, rd2_d, c_eqs, opB_some]
    refine ⟨_, rfl, fun _ => ?_, fun _ => x_nil ?_⟩
    · refine xB (x_asg ?_)
      simp only [evE_idx, evE_lst, evE_call, evL_cons, evL_nil, evE_var, evE_cst, Ct_int, fzL_cons, fzL_nil, fz_d, mkl_f, Ok_bind, Ok_ok, bind_ok, List.getElem?_cons_zero, List.getElem?_cons_succ]
      refine (draw_L (by omega) hT.draw hm3 (by decide) (by decide) (by omega)).mono ?_
      rintro v m5 ⟨i, rfl, i0, i1, hm5, fr5⟩
      obtain ⟨z, ez, hz⟩ := atI_in (xs := [PyData.int 2, .int 3, .int 0, .int 1, .int 5, .int 2]) i0 i1
      obtain ⟨q, rfl, q0, q5⟩ : ∃ q : Int, z = .int q ∧ 0 ≤ q ∧ q ≤ 5 := by
        simp only [List.mem_cons, List.not_mem_nil, or_false] at hz
        rcases hz with rfl | rfl | rfl | rfl | rfl | rfl <;> exact ⟨_, rfl, by decide, by decide⟩
      have hk5 := (fr5.2 kw (by simpa using ne)).trans hk3
      have e5 := rd_at hk5
      have hw5 : Wd (ro - 1) w m5 kw := ⟨_, _, hk5, by omega⟩
      have fr05 := fr03.trans (frm1 (kw := kw) fr5)
      simp only [rd2_d, i_list, ez, opt_some, Ok_ok]
      clear ez hz
      have fin : ∀ q : Int, 0 ≤ q → q ≤ 5 → Ok (evB (callN T (L + 1)) ((F_law_expr.body.tl 8).th.tl 2) [some (.r kf), some (.r kw), some (.d (.list (bs.map .str))), some (.d (.int below)), some (.d (.int times)), some (.d K5), some (.d (.str kd)), none, some (.d (.int q)), none] m5) fun fl m1 => match fl with
          | .nx r1 => Ok (evB (callN T (L + 1)) (F_law_expr.body.tl 9) r1 m1) fun fl m1 => Ok (fin false m.length fl m1) (exprQ cs (dp D (b' + 1) ro) ro bs w (b' + 1) (c + EB (b' + 1)) m kf kw)
          | .rt v => Ok (fin false m.length (.rt v) m1) (exprQ cs (dp D (b' + 1) ro) ro bs w (b' + 1) (c + EB (b' + 1)) m kf kw) := by
        intro q q0 q5
        have oq : okI q = true := okI_by (by omega) (by omega)
        refine xB (x_ret ?_)
        have hbe : below - 1 = (b' : Int) := by omega
        simp only [evE_tup, evL_cons, evL_nil, evE_call, evE_bin, evE_var, evE_cst, Ct_str, Ct_int, Ok_bind, Ok_ok, bind_ok, List.getElem?_cons_zero, List.getElem?_cons_succ, rd2_d, b_sub, b_mul_r oq, opt_some, hbe]
        have hq1 : times * q * 10 ^ b' < 10 ^ 15 := by
          have e1 : times * q * 10 ^ b' = (times * 10 ^ b') * q := by rw [Int.mul_assoc, Int.mul_comm q, ← Int.mul_assoc]
          rw [e1]
          have : (times * 10 ^ b') * q ≤ (times * 10 ^ b') * 10 := Int.mul_le_mul_of_nonneg_left (by omega) htp
          omega
        refine ((IH' (L + 1) (by omega)) _ m5 bs (times * q) (ro - 1) (by omega) hm5 hw5 hb (by omega) (Int.mul_nonneg ht0 q0) hq1 (by omega)).mono ?_
        rintro v m6 ⟨e, rfl, he, hce, hf6, hw6, fr6⟩
        have fr := fr05.trans fr6
        simp only [fzL_cons, fzL_nil, fz_d, bind_ok, Ok_bind, Ok_ok, fin_d, take_same fr.1, lit_again]
        obtain ⟨p1, p2⟩ := tr_mk (cs := cs) (w := .again_) (as := [.int q]) (ks := [e]) (.again q q0 (by omega)) (bs := bs) (n := dp D b' (ro - 1)) (N := NB b') (fun _ h => by cases h) (gd_all (by decide) fun a h => by
          have : a = e := by simpa using h
          rw [this]; exact ⟨he, hce⟩)
        exact ⟨_, rfl, p1.mono (fun _ _ h => h) hdd, Nat.le_trans p2 (NB_up b' hb1).1, hf6.weak (by omega) (by omega), hw6.up (by omega), fr⟩
      have oq : okI q = true := okI_by (by omega) (by omega)
      refine xB (x_ife ?_)
      simp only [evE_cmp, evE_bin, evE_idx, evE_var, evE_cst, Ct_str, Ct_int, Ok_bind, Ok_ok, List.getElem?_cons_zero, List.getElem?_cons_succ, List.set_cons_zero, List.set_cons_succ, rd2, rd_d, e5, wd_toil, opt_some, b_mul_l o30, b_mul_r oq, c_lt, opB_some]
      refine ⟨_, rfl, fun _ => ?_, fun _ => x_nil (fin q q0 q5)⟩
      refine xB (x_asg ?_)
      simp only [evE_cst, Ct_int, Ok_ok, List.set_cons_zero, List.set_cons_succ]
      exact x_nil (fin 1 (by decide) (by decide))
    -- a head, then so many parts
    have hbe : below - 1 = (b' : Int) := by omega
    have fin9 : ∀ (c5 : Int) (m5 : Mem) (ww : W) (as : List PyData) (k : Nat), c5 + 6 * EB b' ≤ c + EB (b' + 1) → Fd c5 m5 kf → Wd (ro - 1) w m5 kw → Frm [kf, kw] m m5 → k ≤ 6 → as.length ≤ 1 → ww ≠ .set_ ∧ ww ≠ .let_ → Form cs ww as k →
        Ok (evB (callN T (L + 1)) (F_law_expr.body.tl 13) [some (.r kf), some (.r kw), some (.d (.list (bs.map .str))), some (.d (.int below)), some (.d (.int times)), some (.d K5), some (.d (.str kd)), some (.d (.list (.str ww.s :: as))), some (.d (.int (k : Int))), none] m5) fun fl m1 => Ok (fin false m.length fl m1) (exprQ cs (dp D (b' + 1) ro) ro bs w (b' + 1) (c + EB (b' + 1)) m kf kw) := by
      intro c5 m5 ww as k hc5 hm5 hw5 fr5 hk6 hal hns hform
      generalize hkk : (k : Int) = kk
      refine xB (x_ret ?_)
      rw [evE_blt, Ok_bind, evE_bin, Ok_bind, evE_var]
      show Ok (R.ok (Vl.d (.list (.str ww.s :: as))) m5) _
      rw [Ok_ok, Ok_bind]
      refine kids_ok (many := k) (IH' (L + 1) (by omega)) (by decide) hbe rfl rfl rfl rfl rfl (by rw [hkk]; rfl) hk6 hm5 hw5 (by omega) hb (by omega) ht0 ht4 (by omega) fun es m6 hel hes hm6 hw6 fr6 => ?_
      have fr := fr5.trans fr6
      simp only [rd2_d, b_addl (small (show (PyData.str ww.s :: as).length + es.length ≤ 1000000 by simp; omega)), opt_some, rd_d, bl_tupl, outM_val, Ok_ok, fin_d, take_same fr.1, List.cons_append]
      obtain ⟨p1, p2⟩ := tr_mk (cs := cs) (w := ww) (as := as) (ks := es) (by rw [hel]; exact hform) (fun _ h => absurd h hns.1) (gd_all hns.2 hes)
      exact ⟨_, rfl, p1.mono (fun _ _ h => h) hdd, Nat.le_trans p2 (NB_up b' hb1).1, hm6.weak hc5 hc, hw6.up (by omega), fr⟩
    show Ok (evB (callN T (L + 1)) (F_law_expr.body.tl 9) [some (.r kf), some (.r kw), some (.d (.list (bs.map .str))), some (.d (.int below)), some (.d (.int times)), some (.d K5), some (.d (.str kd)), none, none, none] m4) fun fl m1 => Ok (fin false m.length fl m1) _
    refine xB (x_asg ?_)
    simp only [evE_lst, evL_cons, evL_nil, evE_cst, Ct_str, fzL_cons, fzL_nil, fz_d, mkl_f, Ok_bind, Ok_ok, bind_ok, List.set_cons_zero, List.set_cons_succ, lit_do]
    refine xB (x_asg ?_)
    simp only [evE_idx, evE_lst, evE_call, evL_cons, evL_nil, evE_var, evE_cst, Ct_int, fzL_cons, fzL_nil, fz_d, mkl_f, Ok_bind, Ok_ok, bind_ok, List.getElem?_cons_zero, List.getElem?_cons_succ]
    refine (draw_L (by omega) hT.draw hm3 (by decide) (by decide) (by omega)).mono ?_
    rintro v m5 ⟨i, rfl, i0, i1, hm5, fr5⟩
    obtain ⟨z, ez, hz⟩ := atI_in (xs := [PyData.int 2, .int 3, .int 1, .int 2, .int 4, .int 6]) i0 i1
    obtain ⟨q, rfl, q1, q6⟩ : ∃ q : Nat, z = .int (q : Int) ∧ 1 ≤ q ∧ q ≤ 6 := by
      simp only [List.mem_cons, List.not_mem_nil, or_false] at hz
      rcases hz with rfl | rfl | rfl | rfl | rfl | rfl
      · exact ⟨2, rfl, by decide, by decide⟩
      · exact ⟨3, rfl, by decide, by decide⟩
      · exact ⟨1, rfl, by decide, by decide⟩
      · exact ⟨2, rfl, by decide, by decide⟩
      · exact ⟨4, rfl, by decide, by decide⟩
      · exact ⟨6, rfl, by decide, by decide⟩
    have hk5 := (fr5.2 kw (by simpa using ne)).trans hk3
    have hw5 : Wd (ro - 1) w m5 kw := ⟨_, _, hk5, by omega⟩
    have fr05 := fr03.trans (frm1 (kw := kw) fr5)
    simp only [rd2_d, i_list, ez, opt_some, Ok_ok]
    clear ez hz
    -- op?
    have opq : ∀ (ww : W) (as : List PyData) (k : Nat), k ≤ 6 → as.length ≤ 1 → ww ≠ .set_ ∧ ww ≠ .let_ → Form cs ww as k → Ok (evB (callN T (L + 1)) (F_law_expr.body.tl 12) [some (.r kf), some (.r kw), some (.d (.list (bs.map .str))), some (.d (.int below)), some (.d (.int times)), some (.d K5), some (.d (.str kd)), some (.d (.list (.str ww.s :: as))), some (.d (.int (k : Int))), none] m5) fun fl m1 => Ok (fin false m.length fl m1) (exprQ cs (dp D (b' + 1) ro) ro bs w (b' + 1) (c + EB (b' + 1)) m kf kw) := by
      intro ww as k hk6 hal hns hform
      have fin0 := fin9 _ m5 ww as k (by omega) hm5 hw5 fr05 hk6 hal hns hform
      generalize (k : Int) = kk at fin0
      refine xB (x_ife ?_)
      simp only [evE_cmp, evE_var, evE_cst, Ct_str, Ok_bind, Ok_ok, List.getElem?_cons_zero, List.getElem?_cons_succ, rd2_d, c_eqs, opB_some]
      refine ⟨_, rfl, fun _ => ?_, fun _ => x_nil fin0⟩
      refine xB (x_asg ?_)
      simp only [evE_lst, evE_idx, evE_call, evL_cons, evL_nil, evE_var, evE_cst, Ct_int, Ct_str, Ok_bind, Ok_ok, bind_ok, List.getElem?_cons_zero, List.getElem?_cons_succ]
      refine (draw_L (by omega) hT.draw hm5 (by decide) (by decide) (by omega)).mono ?_
      rintro v m6 ⟨i, rfl, i0, i1, hm6, fr6⟩
      obtain ⟨x, hx, ex⟩ := sg_ix i0 i1
      simp only [rd2_d, ex, opt_some, Ok_ok, fzL_cons, fzL_nil, fz_d, mkl_f, bind_ok, Ok_bind, List.set_cons_zero, List.set_cons_succ, lit_op]
      refine xB (x_asg ?_)
      simp only [evE_cst, Ct_int, Ok_ok, List.set_cons_zero, List.set_cons_succ]
      refine x_nil (fin9 _ m6 .op_ [.str x] 2 (by omega) hm6 (hw5.frm fr6 (by simpa using ne)) (fr05.trans (frm1 (kw := kw) fr6)) (by decide) (by simp) (by decide) (.op x hx))
    refine xB (x_ife ?_)
    simp only [evE_cmp, evE_var, evE_cst, Ct_str, Ok_bind, Ok_ok, List.getElem?_cons_zero, List.getElem?_cons_succ, List.set_cons_zero, List.set_cons_succ, rd2_d, c_eqs, opB_some]
    refine ⟨_, rfl, fun _ => ?_, fun _ => x_nil (opq .do_ [] q q6 (by decide) (by decide) (.do q q1 q6))⟩
    refine xB (x_asg ?_)
    simp only [evE_lst, evL_cons, evL_nil, evE_cst, Ct_str, fzL_cons, fzL_nil, fz_d, mkl_f, Ok_bind, Ok_ok, bind_ok, List.set_cons_zero, List.set_cons_succ, lit_pick]
    refine xB (x_asg ?_)
    simp only [evE_cst, Ct_int, Ok_ok, List.set_cons_zero, List.set_cons_succ]
    exact x_nil (opq .pick_ [] 3 (by decide) (by decide) (by decide) .pick)
/-- the maker of expressions -/
theorem expr_ok (hT : Has T) (ne : kw ≠ kf) (ok : WOk cs D w) : ∀ (b L : Nat), D + 10 + 2 * b ≤ L → ExprAt T cs D w kf kw b L
  | b, L, hL => by
    obtain ⟨L', rfl⟩ : ∃ L', L = L' + 2 := ⟨L - 2, by omega⟩
    refine expr_step hT ne ok b L' (by omega) fun b' e L'' h => ?_
    subst e
    exact expr_ok hT ne ok b' L'' (by omega)
termination_by b => b
end
end Mp
-- Ev19
set_option Elab.async false
set_option linter.all false
set_option maxRecDepth 100000
set_option maxHeartbeats 2000000
namespace Mp
open PySem L2
theorem bl_dict {l : List (Key × PyData)} : bltop .dict (.dict (reK l)) = some (.dct l) := by
  show (unK (reK l)).map Out.dct = _
  rw [unK_reK]
  rfl
section
variable {T : Str → Option Fn} {cs : Str → Nat → Prop} {L : Nat} {c : Int} {m : Mem} {kf kw : Nat} {D ro : Nat} {w : Wld}
theorem WOk.bare (ok : WOk cs D w) : WOk cs 1 { w with sd := [] } := ⟨ok.ns, ok.n0, ok.nl, ok.ls, ok.ll, ok.fs, ok.fl, ok.wl, (fun _ h => by cases h), Nat.zero_le _, Nat.le_refl _, by decide⟩
def seedsQ (cs : Str → Nat → Prop) (c : Int) (m : Mem) (kf many : Nat) (v : Vl) (m' : Mem) : Prop := ∃ es, v = .d (.list es) ∧ (∀ e ∈ es, Tr cs 2 e) ∧ es.length = many ∧ Fd c m' kf ∧ Frm [kf] m m'
theorem seeds_ok {many : Nat} (hT : Has T) (hS : T "_law_seeds" = some F_law_seeds) (hL : 20 ≤ L) (hm : Fd c m kf) (hw : Wd ro w m kw) (ne : kw ≠ kf) (ok : WOk cs D w) (hmany : many ≤ 10) (hc : c + 10 * EB 4 ≤ 2 ^ 62) :
    Ok (callN T (L + 1) "_law_seeds" [.r kf, .r kw, .d (.int (many : Int))] m) (seedsQ cs (c + 10 * EB 4) m kf many) := by
  have hE : EB 4 = 144060 := by decide
  have hkf := hm.lt
  have hkw := hw.lt
  refine call_ok hS rfl ?_
  generalize hM : (many : Int) = M
  show Ok (evB (callN T L) F_law_seeds.body [some (.r kf), some (.r kw), some (.d (.int M)), none, none, none] m) fun fl m1 => Ok (fin false m.length fl m1) _
  refine xB (x_asg ?_)
  simp only [evE_lst, evL_nil, fzL_nil, mkl_t, Ok_bind, Ok_ok, bind_ok, List.set_cons_succ, List.set_cons_zero]
  refine xB (x_rng ?_)
  simp only [evE_var, List.getElem?_cons_succ, List.getElem?_cons_zero, Ok_ok]
  refine ⟨M, rfl, by omega, by omega, ?_⟩
  refine forL_ok (fun i r m1 => i ≤ many ∧ ∃ (es : List PyData) (w4 w5 : Option Vl), r = [some (.r kf), some (.r kw), some (.d (.int M)), some (.r m.length), w4, w5] ∧ m.length + 1 ≤ m1.length ∧ m1[m.length]? = some (.lst es) ∧ es.length = i ∧ (∀ e ∈ es, Tr cs 2 e) ∧ Fd (c + i * 144060) m1 kf ∧ Wd ro w m1 kw ∧ Ext [kf] m m1) (n := 0)
    ⟨Nat.zero_le _, [], none, none, rfl, by simp, at_last, rfl, (fun _ h => by cases h), (hm.of (List.getElem?_append_left hkf)).weak (by omega) (by omega), hw.of (List.getElem?_append_left hkw), .al _ _ _⟩ ?_ ?_
  · rintro i x r m1 ⟨j, hj, hij⟩ ⟨hi, es, w4, w5, rfl, hl1, hat, hel, hes, hf1, hw1, hx1⟩
    have hij2 : i = j := by omega
    subst hij2
    have hjm := (rngL_at hj).2
    have hk1 := hf1.lt
    obtain ⟨room, toil, hwk, hr⟩ := hw1
    have e1 := rd_at hwk
    have hkw1 := lt_of_at hwk
    show Ok (evB (callN T L) (.cons (.asg 5 _) _) [some (.r kf), some (.r kw), some (.d (.int M)), some (.r m.length), some (.d x), w5] m1) _
    refine xB (x_asg ?_)
    simp only [evE_blt, evE_var, Ok_bind, Ok_ok, List.getElem?_cons_succ, List.getElem?_cons_zero, List.set_cons_succ, List.set_cons_zero, e1, bl_dict, outM_dct]
    have hs0 : (m1 ++ [Cell.dct (worldD w room toil)])[m1.length]? = some (.dct (worldD w room toil)) := at_last
    have hf2 : Fd (c + i * 144060) (m1 ++ [Cell.dct (worldD w room toil)]) kf := hf1.of (List.getElem?_append_left hk1)
    have hx2 : Ext [kf] m (m1 ++ [Cell.dct (worldD w room toil)]) := hx1.app
    have hat2 : (m1 ++ [Cell.dct (worldD w room toil)])[m.length]? = some (.lst es) := (List.getElem?_append_left (by omega)).trans hat
    have hw2 : (m1 ++ [Cell.dct (worldD w room toil)])[kw]? = some (.dct (worldD w room toil)) := (List.getElem?_append_left hkw1).trans hwk
    have hl2 : (m1 ++ [Cell.dct (worldD w room toil)]).length = m1.length + 1 := by simp
    generalize m1 ++ [Cell.dct (worldD w room toil)] = m2 at hs0 hf2 hx2 hat2 hw2 hl2
    refine xB (x_put (k := m1.length) rfl ?_)
    simp only [evE_lst, evL_nil, fzL_nil, mkl_f, Ok_bind, Ok_ok, bind_ok]
    refine ⟨_, _, rfl, hs0, wd_len, fun m3 hk3 hl3 ho3 => ?_⟩
    rw [wd_pseeds] at hk3
    refine xB (x_put (k := m1.length) rfl ?_)
    simp only [evE_cst, Ct_int, Ok_ok]
    refine ⟨_, _, rfl, hk3, wd_len, fun m4 hk4 hl4 ho4 => ?_⟩
    rw [wd_proom] at hk4
    refine xB (x_put (k := m1.length) rfl ?_)
    simp only [evE_cst, Ct_int, Ok_ok]
    refine ⟨_, _, rfl, hk4, wd_len, fun m5 hk5 hl5 ho5 => ?_⟩
    rw [wd_ptoil] at hk5
    have same : ∀ j, j ≠ m1.length → m5[j]? = m2[j]? := fun j hj => (ho5 j hj).trans ((ho4 j hj).trans (ho3 j hj))
    have hl52 : m5.length = m2.length := by rw [hl5, hl4, hl3]
    have hf5 : Fd (c + i * 144060) m5 kf := hf2.of (same kf (by omega))
    refine xB (x_app (k := m.length) rfl ((same m.length (by omega)).trans hat2) ?_)
    simp only [evE_call, evL_cons, evL_nil, evE_lst, evE_var, evE_cst, Ct_int, fzL_nil, mkl_f, Ok_bind, Ok_ok, bind_ok, List.getElem?_cons_succ, List.getElem?_cons_zero]
    have hws : Wd 7 { w with sd := [] } m5 m1.length := ⟨7, 60, hk5, by decide⟩
    refine (expr_ok hT (by omega) ok.bare 4 L (by omega) (c + i * 144060) m5 [] 1 7 (by decide) hf5 hws (fun _ h => by cases h) (by decide) (by decide) (by decide) (by omega)).mono ?_
    rintro v m6 ⟨e, rfl, he, _, hf6, _, fr6⟩
    have hat6 : m6[m.length]? = some (.lst es) := (fr6.2 _ (by simp; omega)).trans ((same m.length (by omega)).trans hat2)
    refine ⟨_, _, rfl, hat6, by have : sizeLine = 16777216 := rfl; omega, fun m7 hk7 hl7 ho7 => ?_⟩
    have hx5 : Ext [kf] m m5 := hx2.put hl52 same (.inl (by omega))
    have hx6 : Ext [kf] m m6 := hx5.frm fr6 fun j hj hjl => by simp at hj; rcases hj with rfl | rfl <;> simp; omega
    refine x_nil ⟨by omega, es ++ [e], some (.d x), some (.r m1.length), rfl, by rw [hl7, fr6.1, hl52, hl2]; omega, hk7, by simp [hel], fun z hz => ?_, ?_, ?_, hx6.put hl7 ho7 (.inl (Nat.le_refl _))⟩
    · rcases List.mem_append.mp hz with hz | hz
      · exact hes z hz
      · have : z = e := by simpa using hz
        rw [this]; exact he.tr
    · exact (hf6.of (ho7 kf (by omega))).weak (by push_cast; omega) (by push_cast; omega)
    · exact ⟨room, toil, (ho7 kw (by omega)).trans ((fr6.2 kw (by simp; omega)).trans ((same kw (by omega)).trans hw2)), hr⟩
  · rintro r m1 ⟨hi, es, w4, w5, rfl, hl1, hat, hel, hes, hf1, hw1, hx1⟩
    rw [rngL_len] at hel hf1
    refine xB (x_ret ?_)
    simp only [evE_var, List.getElem?_cons_succ, List.getElem?_cons_zero, Ok_ok, fin_f, fz_lst hat, bind_ok, Ok_bind]
    refine ⟨es, rfl, hes, by omega, ?_, (hx1.set (.inl (Nat.le_refl _))).done⟩
    exact Fd.take ((hf1.of (List.getElem?_set_ne (by omega))).weak (by omega) (by omega)) hkf
end
end Mp
-- Ev20
set_option Elab.async false
set_option linter.all false
set_option maxRecDepth 100000
set_option maxHeartbeats 2000000
namespace Mp
open PySem L2
section
variable {T : Str → Option Fn} {L : Nat} {m : Mem}
theorem dic_world {a b c d e f g h : PyData} : dicOf ["names", "lets", "functions", "works", "seeds", "room", "toil", "takes"] [a, b, c, d, e, f, g, h] = some [(.inr "names", a), (.inr "lets", b), (.inr "functions", c), (.inr "works", d), (.inr "seeds", e), (.inr "room", f), (.inr "toil", g), (.inr "takes", h)] := by rfl
theorem world_ok {ns ls : List Str} {fs : List (Str × Int)} {l : List (Key × PyData)} {wk : Nat} {room toil : Int} {Q : Vl → Mem → Prop} (hW : T "_law_world!" = some F_law_world_r) (hk : m[wk]? = some (.dct l))
    (hQ : Q (.r m.length) (m.set wk (.frz (.dict (reK l))) ++ [.dct (worldD ⟨ns, ls, fs, l, []⟩ room toil)])) :
    Ok (callN T (L + 1) "_law_world!" [.d (.list (ns.map .str)), .d (.list (ls.map .str)), .d (.list (fs.map fnD)), .r wk, .d (.int room), .d (.int toil)] m) Q := by
  have hlt := lt_of_at hk
  refine call_ok hW rfl ?_
  show Ok (evB (callN T L) F_law_world_r.body [some (.d (.list (ns.map .str))), some (.d (.list (ls.map .str))), some (.d (.list (fs.map fnD))), some (.r wk), some (.d (.int room)), some (.d (.int toil))] m) fun fl m1 => Ok (fin true m.length fl m1) _
  refine xB (x_ret ?_)
  have hf : (m ++ [Cell.dct []])[wk]? = some (.dct l) := (List.getElem?_append_left hlt).trans hk
  have hs : (m ++ [Cell.dct []]).set wk (.frz (.dict (reK l))) = m.set wk (.frz (.dict (reK l))) ++ [.dct []] := by rw [List.set_append_left _ _ hlt]
  have ha : (m.set wk (.frz (.dict (reK l))) ++ [Cell.dct []])[m.length]? = some (.dct []) := by
    have : m.length = (m.set wk (.frz (.dict (reK l)))).length := (List.length_set ..).symm
    rw [this]; exact at_last
  have hs2 : ∀ c, (m.set wk (.frz (.dict (reK l))) ++ [Cell.dct []]).set m.length c = m.set wk (.frz (.dict (reK l))) ++ [c] := fun c => by
    rw [List.set_append_right _ _ (by rw [List.length_set]; exact Nat.le_refl _), List.length_set, Nat.sub_self]; rfl
  rw [evE_dic, Ok_bind]
  simp only [evL_cons, evL_nil, evE_var, evE_lst, evE_cst, Ct_bl, fzL_nil, fzL_cons, mkl_f, fz_d, Ok_bind, Ok_ok, bind_ok, List.getElem?_cons_succ, List.getElem?_cons_zero, fz_dct hf, hs, dic_world, ha, hs2]
  have e1 : ∀ c, (m.set wk (.frz (.dict (reK l))) ++ [c])[m.length]? = some c := fun c => by
    have : m.length = (m.set wk (.frz (.dict (reK l)))).length := (List.length_set ..).symm
    rw [this]; exact at_last
  rw [fin_r (Nat.le_refl _) (e1 _), Ok_ok, List.take_left' (List.length_set ..)]
  exact hQ
end
end Mp
-- Ev21
set_option Elab.async false
set_option linter.all false
set_option maxRecDepth 100000
set_option maxHeartbeats 2000000
namespace Mp
open PySem L2
/-! ### texts joined -/
theorem str_assoc (a b c : Str) : a ++ b ++ c = a ++ (b ++ c) := by
  rw [stL_of a, stL_of b, stL_of c, stL_add, stL_add, stL_add, stL_add, List.append_assoc]
theorem join_cons {s x : Str} {ys : List Str} (h : ys ≠ []) : Str.join s (x :: ys) = x ++ (s ++ Str.join s ys) := by
  cases ys with
  | nil => exact absurd rfl h
  | cons y ys => show x ++ s ++ Str.join s (y :: ys) = _; rw [str_assoc]
theorem join_app {s : Str} : ∀ {xs ys : List Str}, xs ≠ [] → ys ≠ [] → Str.join s (xs ++ ys) = Str.join s xs ++ (s ++ Str.join s ys)
  | [], _, h, _ => absurd rfl h
  | [x], ys, _, h => by
    rw [List.singleton_append, join_cons h]
    rfl
  | x :: y :: xs, ys, _, h => by
    rw [List.cons_append, join_cons (by simp), join_app (xs := y :: xs) (by simp) h, join_cons (ys := y :: xs) (by simp)]
    simp only [str_assoc]
/-- a text within is its words -/
theorem join_in {s : Str} {xs ys zs : List Str} (h : ys ≠ []) : Str.join s (xs ++ Str.join s ys :: zs) = Str.join s (xs ++ (ys ++ zs)) := by
  have mid : Str.join s (Str.join s ys :: zs) = Str.join s (ys ++ zs) := by
    cases zs with
    | nil => rw [List.append_nil]; rfl
    | cons z zs => rw [join_cons (by simp), join_app h (by simp)]
  cases xs with
  | nil => exact mid
  | cons x xs => rw [join_app (by simp) (by simp), join_app (by simp) (by simp [h]), mid]
theorem join_flat {s : Str} {zs : List Str} : ∀ {wss : List (List Str)} {xs : List Str}, (∀ w ∈ wss, w ≠ []) → Str.join s (xs ++ (wss.map (Str.join s) ++ zs)) = Str.join s (xs ++ (wss.flatten ++ zs))
  | [], xs, _ => rfl
  | w :: wss, xs, h => by
    rw [List.map_cons, List.cons_append, join_in (h w List.mem_cons_self), List.flatten_cons, List.append_assoc]
    have := join_flat (s := s) (zs := zs) (wss := wss) (xs := xs ++ w) fun v hv => h v (List.mem_cons_of_mem _ hv)
    rw [List.append_assoc, List.append_assoc] at this
    exact this
theorem join_len {s : Str} : ∀ xs : List Str, (Str.join s xs).length ≤ (xs.map (·.length)).sum + xs.length * s.length
  | [] => Nat.zero_le _
  | [x] => by simp [Str.join]
  | x :: y :: xs => by
    rw [join_cons (by simp), add_len, add_len]
    have := join_len (s := s) (y :: xs)
    simp only [List.map_cons, List.sum_cons, List.length_cons] at this ⊢
    rw [Nat.succ_mul (xs.length + 1)]
    omega
end Mp
-- Ev22
set_option Elab.async false
set_option linter.all false
set_option maxRecDepth 100000
set_option maxHeartbeats 2000000
namespace Mp
open PySem L2
theorem char_lt (c : Char) : c.toNat < 0x110000 := by
  have h := c.valid
  have e : c.toNat = c.val.toNat := rfl
  rcases h with h | ⟨_, h⟩
  · rw [e]; have : c.val.toNat < 0xd800 := h; omega
  · rw [e]; exact h
theorem ofString_ok (s : String) : PyData.strOk (Str.ofString s) = true := by
  rw [Str.ofString_eq_toList]
  unfold PyData.strOk
  rw [Array.all_eq_true']
  intro c hc
  have hc : c ∈ s.toList.map Char.toNat := by simpa using hc
  obtain ⟨d, _, rfl⟩ := List.mem_map.mp hc
  exact decide_eq_true (char_lt d)
theorem ofString_len (s : String) : (Str.ofString s).length = s.toList.length := by
  rw [Str.ofString_eq_toList]
  simp [Str.length]
theorem str_int {i : Int} (h0 : 0 ≤ i) (h : i ≤ 999999999) : ∃ s : Str, bltop .str (.int i) = some (.val (.str s)) ∧ s.length ≤ 9 ∧ PyData.strOk s = true := by
  obtain ⟨n, rfl⟩ : ∃ n : Nat, i = (n : Int) := ⟨i.toNat, by omega⟩
  have hl : ((n : Int).natAbs).log2 < 1920 := by
    have e : (n : Int).natAbs = n := by omega
    rw [e]
    by_cases hn : n = 0
    · subst hn; decide
    · rw [Nat.log2_lt hn]
      have : n < 2 ^ 30 := by have : (2 : Nat) ^ 30 = 1073741824 := rfl; omega
      exact Nat.lt_of_lt_of_le this (Nat.pow_le_pow_right (by decide) (by decide))
  refine ⟨Str.ofString (toString (n : Int)), bl_stri hl, ?_, ofString_ok _⟩
  rw [ofString_len]
  have e : (toString (n : Int) : String) = String.ofList (Nat.toDigits 10 n) := rfl
  rw [e]
  have : (Nat.toDigits 10 n).length ≤ 9 := (Nat.length_toDigits_le_iff (by decide) (by decide)).mpr (by omega)
  simpa using this
end Mp
-- Ev23
set_option Elab.async false
set_option linter.all false
set_option maxRecDepth 100000
set_option maxHeartbeats 2000000
namespace Mp
open PySem L2
section
variable {T : Str → Option Fn} {cs : Str → Nat → Prop}
/-- str of the atoms -/
theorem Form.strs {w : W} {as : List PyData} {k : Nat} (f : Form cs w as k) : ∃ ss : List Str, Paired (fun a s => bltop .str a = some (.val (.str s)) ∧ s.length ≤ 9 ∧ PyData.strOk s = true) as ss := by
  have sg : ∀ x ∈ sgs, PyData.strOk x = true ∧ x.length ≤ 9 := by
    have q : (sgs.all fun x => PyData.strOk x && decide (x.length ≤ 9)) = true := by decide +kernel
    intro x hx
    have := List.all_eq_true.mp q x hx
    rw [Bool.and_eq_true, decide_eq_true_eq] at this
    exact this
  have st : ∀ x, PyData.strOk x = true → x.length ≤ 9 → ∃ ss : List Str, Paired (fun a s => bltop .str a = some (.val (.str s)) ∧ s.length ≤ 9 ∧ PyData.strOk s = true) [PyData.str x] ss := fun x h h2 => ⟨[x], .cons ⟨rfl, h2, h⟩ .nil⟩
  have nm : ∀ x, Nw x → ∃ ss : List Str, Paired (fun a s => bltop .str a = some (.val (.str s)) ∧ s.length ≤ 9 ∧ PyData.strOk s = true) [PyData.str x] ss := fun x h => st x (low_ok h.1.1) (by have := h.1.2.2; omega)
  have it : ∀ i : Int, 0 ≤ i → i ≤ 999999999 → ∃ ss : List Str, Paired (fun a s => bltop .str a = some (.val (.str s)) ∧ s.length ≤ 9 ∧ PyData.strOk s = true) [PyData.int i] ss := fun i h0 h1 => by
    obtain ⟨s, h2, h3, h4⟩ := str_int h0 h1
    exact ⟨[s], .cons ⟨h2, h3, h4⟩ .nil⟩
  cases f
  · exact ⟨[], .nil⟩
  · exact it _ (by assumption) (by assumption)
  · exact nm _ (by assumption)
  · rename_i x h; exact st x (sg x h).1 (sg x h).2
  · exact ⟨[], .nil⟩
  · exact nm _ (by assumption)
  · exact nm _ (by assumption)
  · exact ⟨[], .nil⟩
  · exact ⟨[], .nil⟩
  · rename_i i h0 h1; exact it i h0 (by omega)
  · exact nm _ (by assumption)
end
end Mp
-- Ev24
set_option Elab.async false
set_option linter.all false
set_option maxRecDepth 100000
set_option maxHeartbeats 2000000
namespace Mp
open PySem L2
def strG (a : PyData) : Option PyData := if isT a then none else match bltop .str a with
  | some (.val d) => some d
  | _ => none
theorem strG_as {P : PyData → Str → Prop} (hP : ∀ a s, P a s → bltop .str a = some (.val (.str s))) {as : List PyData} {ss : List Str} (h : ∀ a ∈ as, isT a = false) (hp : Paired P as ss) : as.filterMap strG = ss.map .str := by
  induction hp with
  | nil => rfl
  | @cons a s as ss p t ih =>
    have e : strG a = some (.str s) := by
      unfold strG
      rw [h a List.mem_cons_self, hP a s p]
      rfl
    rw [List.filterMap_cons_some e, ih fun b hb => h b (List.mem_cons_of_mem _ hb)]
    rfl
theorem strG_ks : ∀ {ks : List PyData}, (∀ a ∈ ks, isT a = true) → ks.filterMap strG = []
  | [], _ => rfl
  | a :: ks, h => by
    have e : strG a = none := by unfold strG; rw [h a List.mem_cons_self]; rfl
    rw [List.filterMap_cons_none e, strG_ks fun b hb => h b (List.mem_cons_of_mem _ hb)]
section
variable {F : Fs} {r : En} {m : Mem} {Q : Vl → Mem → Prop} {cs : Str → Nat → Prop}
theorem heads_ok {w : W} {as ks : List PyData} {ss : List Str} {s : Nat} (f : Form cs w as ks.length) (hk : ∀ a ∈ ks, isT a = true ∧ notD a = true) (hs : Paired (fun a s => bltop .str a = some (.val (.str s)) ∧ s.length ≤ 9 ∧ PyData.strOk s = true) as ss) (h0 : r[0]? = some (some (.d (.tuple (.str w.s :: (as ++ ks)))))) (hs1 : 1 ≤ s) (hs2 : s < r.length)
    (hQ : Q (.d (.list (ss.map .str))) m) : Ok (evE F (.lci false (.blt false .str (.var s)) (.v s) (.e (.slf (.var 0) (.cst (.int 1)))) (.not (.isi (.var s) .tuple))) r m) Q := by
  refine x_lci strG ?_
  simp only [evI_e, evE_slf, evE_var, evE_cst, Ct_int, Ok_bind, Ok_ok, bind_ok, h0, rd_d, sl_tup, cutL_from, opt_some, fz_d]
  refine .of ⟨fun a ha acc => ⟨_, rfl, ?_⟩, ?_⟩
  · have g : ((wipeE r [s]).set s (some (.d a)))[s]? = some (some (.d a)) := by
      rw [List.getElem?_set_self]
      show s < (r.set s none).length
      rw [List.length_set]; exact hs2
    have nd : notD a = true := (List.mem_append.mp ha).elim (fun z => (f.flat a z).2.1) fun z => (hk a z).2
    show Ok (evE F (.not (.isi (.var s) .tuple)) ((wipeE r [s]).set s (some (.d a))) _) _
    simp only [evE_not, evE_isi, evE_var, g, Ok_bind, Ok_ok, rd_d, isi_tup nd, opB_some, asB_b]
    refine ⟨True.intro, _, rfl, fun hb => by have : isT a = true := by simpa using hb
                                             simp [strG, this], fun hb => ?_⟩
    have hb : isT a = false := by simpa using hb
    have haa : a ∈ as := (List.mem_append.mp ha).elim id fun z => by rw [(hk a z).1] at hb; cases hb
    have ex : ∀ {as : List PyData} {ss : List Str}, Paired (fun a s => bltop .str a = some (.val (.str s)) ∧ s.length ≤ 9 ∧ PyData.strOk s = true) as ss → ∀ a ∈ as, ∃ s, bltop .str a = some (.val (.str s)) := by
      intro as ss hp
      induction hp with
      | nil => intro a h; cases h
      | cons p t ih =>
        intro a h
        rcases List.mem_cons.mp h with rfl | h
        · exact ⟨_, p.1⟩
        · exact ih a h
    obtain ⟨x, hx⟩ := ex hs a haa
    show Ok (evE F (.blt false .str (.var s)) ((wipeE r [s]).set s (some (.d a))) _) _
    simp only [evE_blt, evE_var, g, Ok_bind, Ok_ok, rd_d, hx, outM_val]
    exact ⟨_, rfl, by simp [strG, hb, hx], True.intro⟩
  · rw [List.filterMap_append, strG_as (fun a s h => h.1) (fun a h => (f.flat a h).1) hs, strG_ks fun a h => (hk a h).1, List.append_nil]
    exact hQ
end
end Mp
-- Ev25
set_option Elab.async false
set_option linter.all false
set_option maxRecDepth 100000
set_option maxHeartbeats 2000000
namespace Mp
open PySem L2
def nodeW (w : W) (ss : List Str) (wss : List (List Str)) : List Str :=
  if w = .take_ then [("take" : Str)] else if w = .num_ ∨ w = .name_ then ss else [("(" : Str)] ++ (if w = .op_ then [] else [w.s]) ++ ss ++ wss.flatten ++ [(")" : Str)]
/-- the words of a tree -/
structure Wrd (e : PyData) (ws : List Str) : Prop where
  ne : ws ≠ []
  ln : ws.length ≤ 4 * cnt e
  sz : (ws.map (·.length)).sum ≤ 16 * cnt e
  ok : ∀ x ∈ ws, PyData.strOk x = true
section
variable {T : Str → Option Fn} {cs : Str → Nat → Prop}
theorem Form.num_inv {as : List PyData} {k : Nat} (h : Form cs .num_ as k) : ∃ i, as = [.int i] ∧ 0 ≤ i ∧ i ≤ 999999999 ∧ k = 0 := by
  cases h
  exact ⟨_, rfl, by assumption, by assumption, rfl⟩
theorem words_node {w : W} {as ks : List PyData} {ss : List Str} {wss : List (List Str)} (f : Form cs w as ks.length) (hs : Paired (fun a s => bltop .str a = some (.val (.str s)) ∧ s.length ≤ 9 ∧ PyData.strOk s = true) as ss) (hw : Paired Wrd ks wss) : Wrd (.tuple (.str w.s :: (as ++ ks))) (nodeW w ss wss) := by
  have es : cnt (.str w.s) = 0 := by rw [cnt]; intro xs h; cases h
  have e0 : cntL as = 0 := by
    have : ∀ l : List PyData, (∀ a ∈ l, cnt a = 0) → cntL l = 0 := by
      intro l
      induction l with
      | nil => intro _; rfl
      | cons x l ih => intro h; rw [cntL, h x List.mem_cons_self, ih fun y hy => h y (List.mem_cons_of_mem _ hy)]
    exact this as fun a ha => (f.flat a ha).2.2
  have hc : cnt (.tuple (.str w.s :: (as ++ ks))) = 1 + cntL ks := by rw [cnt, cntL, cntL_app, es, e0]; omega
  have sl : ss.length = as.length := (paired_len hs).symm
  have s9 : (ss.map (·.length)).sum ≤ 9 * ss.length ∧ ∀ x ∈ ss, PyData.strOk x = true := by
    clear f es e0 hc sl
    induction hs with
    | nil => exact ⟨Nat.le_refl _, fun _ h => by cases h⟩
    | cons p t ih =>
      obtain ⟨h1, h2⟩ := ih
      refine ⟨by simp only [List.map_cons, List.sum_cons, List.length_cons]; have := p.2.1; omega, fun x hx => ?_⟩
      rcases List.mem_cons.mp hx with rfl | hx
      · exact p.2.2
      · exact h2 x hx
  have k9 : wss.flatten.length ≤ 4 * cntL ks ∧ (wss.flatten.map (·.length)).sum ≤ 16 * cntL ks ∧ ∀ x ∈ wss.flatten, PyData.strOk x = true := by
    clear f es e0 hc sl s9
    induction hw with
    | nil => exact ⟨by simp, by simp, fun _ h => by simp at h⟩
    | cons p t ih =>
      obtain ⟨h1, h2, h3⟩ := ih
      rw [cntL, List.flatten_cons]
      have q1 := p.ln
      have q2 := p.sz
      refine ⟨by rw [List.length_append]; omega, by rw [List.map_append, List.sum_append]; omega, fun x hx => ?_⟩
      rcases List.mem_append.mp hx with hx | hx
      · exact p.ok x hx
      · exact h3 x hx
  have w5 := w.ok
  have br : PyData.strOk "(" = true ∧ PyData.strOk ")" = true ∧ (("(" : Str)).length = 1 ∧ ((")" : Str)).length = 1 ∧ PyData.strOk "take" = true ∧ (("take" : Str)).length = 4 := by decide +kernel
  have a1 := f.small.1
  unfold nodeW
  split
  · refine ⟨by simp, by rw [hc]; simp; omega, by rw [hc]; simp [br.2.2.2.2.2]; omega, fun x hx => ?_⟩
    have hx' : x = ("take" : Str) := by simpa using hx
    rw [hx']
    exact br.2.2.2.2.1
  · split
    · rename_i hn
      have h1 : ss.length = 1 := by
        rcases hn with rfl | rfl
        · obtain ⟨i, e, _⟩ := f.num_inv; rw [e] at sl; exact sl
        · obtain ⟨i, e, _⟩ := f.name_inv; rw [e] at sl; exact sl
      exact ⟨by intro h; rw [h] at h1; simp at h1, by rw [hc]; omega, by rw [hc]; have := s9.1; omega, s9.2⟩
    · refine ⟨by simp, ?_, ?_, ?_⟩
      · rw [hc]
        simp only [List.length_append, List.length_cons, List.length_nil]
        have : (if w = W.op_ then ([] : List Str) else [w.s]).length ≤ 1 := by split <;> simp
        have := k9.1
        omega
      · rw [hc]
        simp only [List.map_append, List.sum_append, List.map_cons, List.map_nil, List.sum_cons, List.sum_nil, br.2.2.1, br.2.2.2.1]
        have : ((if w = W.op_ then ([] : List Str) else [w.s]).map (·.length)).sum ≤ 5 := by split <;> simp; exact w5.2
        have := k9.2.1
        have := s9.1
        omega
      · intro x hx
        simp only [List.mem_append, List.mem_cons, List.not_mem_nil, or_false] at hx
        rcases hx with (((rfl | hx) | hx) | hx) | rfl
        · exact br.1
        · split at hx
          · cases hx
          · have : x = w.s := by simpa using hx
            rw [this]; exact w5.1
        · exact s9.2 x hx
        · exact k9.2.2 x hx
        · exact br.2.1
end
end Mp
-- Ev26
set_option Elab.async false
set_option linter.all false
set_option maxRecDepth 100000
set_option maxHeartbeats 2000000
namespace Mp
open PySem L2
section
variable {T : Str → Option Fn} {cs : Str → Nat → Prop}
theorem mul_rep {x : PyData} (b : Bool) : binop .mul (.list [x]) (.int (if b then 1 else 0)) = some (.list (if b then [x] else [])) := by
  cases b <;> rfl
theorem lit_wds : Str.ofString "take" = W.s .take_ ∧ Str.ofString "num" = W.s .num_ ∧ Str.ofString "name" = W.s .name_ ∧ Str.ofString "op" = W.s .op_ := ⟨rfl, rfl, rfl, rfl⟩
theorem paired_at {α β : Type} {P : α → β → Prop} {as : List α} {bs : List β} (h : Paired P as bs) : ∀ {i : Nat} {a : α}, as[i]? = some a → ∃ b, bs[i]? = some b ∧ P a b := by
  induction h with
  | nil => intro i a e; simp at e
  | cons p t ih =>
    intro i a e
    cases i with
    | zero => simp at e; subst e; exact ⟨_, rfl, p⟩
    | succ i => exact ih (by simpa using e)
/-- _law_words at a node -/
theorem words_step {w : W} {as ks : List PyData} {ss : List Str} {wss : List (List Str)} {n : Nat} (hP : T "_law_parts" = some F_law_parts) (hT : T "_law_words" = some F_law_words) (f : Form cs w as ks.length) (hk : ∀ a ∈ ks, isT a = true ∧ notD a = true) (hs : Paired (fun a s => bltop .str a = some (.val (.str s)) ∧ s.length ≤ 9 ∧ PyData.strOk s = true) as ss)
    (hw : Paired (fun e ws => Pu T (n + 1) "_law_words" [.d e] (.list (ws.map .str))) ks wss) (hz : (nodeW w ss wss).length ≤ 4000000) : Pu T (n + 2) "_law_words" [.d (.tuple (.str w.s :: (as ++ ks)))] (.list ((nodeW w ss wss).map .str)) := .of fun m => by
  have hp := parts_pu (n := n) (x := .str w.s) (xs := as ++ ks) hP fun a ha => (List.mem_append.mp ha).elim (fun z => (f.flat a z).2.1) fun z => (hk a z).2
  rw [(filt_as (fun a ha => (f.flat a ha).1) fun a ha => (hk a ha).1).1] at hp
  refine call_ok hT rfl ?_
  show Ok (evB (callN T (n + 1)) F_law_words.body [some (.d (.tuple (.str w.s :: (as ++ ks)))), none, none, none] m) fun fl m1 => Ok (fin false m.length fl m1) _
  refine xB (x_ife ?_)
  simp only [evE_cmp, evE_idx, evE_var, evE_cst, Ct_str, Ct_int, Ok_bind, Ok_ok, List.getElem?_cons_zero, rd2_d, i_tup, atI_0, opt_some, lit_take, c_eqs, W.s_inj, opB_some]
  refine ⟨_, rfl, fun h => ?_, fun h => x_nil ?_⟩
  · have h := of_decide_eq_true h
    refine xB (x_ret ?_)
    simp only [evE_lst, evL_cons, evL_nil, evE_cst, Ct_str, fzL_cons, fzL_nil, fz_d, mkl_f, Ok_bind, Ok_ok, bind_ok, fin_d, take_same rfl]
    refine ⟨?_, True.intro⟩
    unfold nodeW
    rw [if_pos h]
    rfl
  · have h1 := of_decide_eq_false h
    refine xB (x_asg ?_)
    refine heads_ok f hk hs rfl (by decide) (by simp) ?_
    show Ok (evB (callN T (n + 1)) (F_law_words.body.tl 2) [some (.d (.tuple (.str w.s :: (as ++ ks)))), some (.d (.list (ss.map .str))), none, none] m) fun fl m1 => Ok (fin false m.length fl m1) _
    have s1 : ss.length ≤ 1 := by rw [← paired_len hs]; exact f.small.1
    refine xB (x_ife ?_)
    have cnd : Ok (evE (callN T (n + 1)) (.or (.cons (.cmp .eq (.idx (.var 0) (.cst (.int 0))) (.cst (.str "num"))) (.cons (.cmp .eq (.idx (.var 0) (.cst (.int 0))) (.cst (.str "name"))) .nil))) [some (.d (.tuple (.str w.s :: (as ++ ks)))), some (.d (.list (ss.map .str))), none, none] m) fun v m1 => m1 = m ∧ v = .d (.bool (decide (w = .num_ ∨ w = .name_))) := by
      simp only [evE_or, evOr_cons, evOr_one, evE_cmp, evE_idx, evE_var, evE_cst, Ct_str, Ct_int, Ok_bind, Ok_ok, List.getElem?_cons_zero, rd2_d, i_tup, atI_0, opt_some, lit_num, lit_name, c_eqs, W.s_inj, opB_some, asB_b]
      by_cases h : w = .num_
      · simp [h]
      · simp only [h, decide_false, false_or, evOr_one, evE_cmp, evE_idx, evE_var, evE_cst, Ct_str, Ct_int, Ok_bind, Ok_ok, List.getElem?_cons_zero, rd2_d, i_tup, atI_0, opt_some, lit_name, c_eqs, W.s_inj, opB_some, asB_b, and_self]
    refine cnd.mono ?_
    rintro v m1 ⟨rfl, rfl⟩
    refine ⟨_, rfl, fun h => ?_, fun h => x_nil ?_⟩
    · have h := of_decide_eq_true h
      refine xB (x_ret ?_)
      simp only [evE_var, List.getElem?_cons_zero, List.getElem?_cons_succ, Ok_ok, fin_d, take_same rfl]
      refine ⟨?_, True.intro⟩
      unfold nodeW
      rw [if_neg h1, if_pos h]
    · have h2 := of_decide_eq_false h
      have en : nodeW w ss wss = ([("(" : Str)] ++ (if w = .op_ then [] else [w.s]) ++ ss) ++ (wss.flatten ++ [(")" : Str)]) := by
        unfold nodeW
        rw [if_neg h1, if_neg h2]
        simp only [List.append_assoc]
      rw [en] at hz ⊢
      generalize hpre : [("(" : Str)] ++ (if w = .op_ then [] else [w.s]) ++ ss = pre at hz ⊢
      show Ok (evB (callN T (n + 1)) (F_law_words.body.tl 3) [some (.d (.tuple (.str w.s :: (as ++ ks)))), some (.d (.list (ss.map .str))), none, none] m1) fun fl m2 => Ok (fin false m1.length fl m2) _
      have l2 : ([PyData.str "("] ++ (if (!decide (w = .op_)) then [PyData.str w.s] else [])).length ≤ 2 := by split <;> simp
      have em : ([PyData.str "("] ++ (if (!decide (w = .op_)) then [PyData.str w.s] else [])) ++ ss.map .str = pre.map .str := by
        rw [← hpre]
        by_cases h : w = .op_ <;> simp [h]
      refine xB (x_asg ?_)
      simp only [evE_bin, evE_lst, evL_cons, evL_nil, evE_blt, evE_cmp, evE_idx, evE_var, evE_cst, Ct_str, Ct_int, fzL_cons, fzL_nil, fz_d, mkl_f, Ok_bind, Ok_ok, bind_ok, List.getElem?_cons_zero, List.getElem?_cons_succ, rd2_d, rd_d, i_tup, atI_0, opt_some, lit_op, c_nes, W.s_inj, opB_some, bl_intb, outM_val, mul_rep]
      have l2' := l2
      rw [List.length_append] at l2'
      rw [b_addl (small (by omega)), opt_some, Ok_ok, rd2_d, b_addl (small (by rw [List.length_map]; omega)), opt_some, Ok_ok, em]
      show Ok (evB (callN T (n + 1)) (F_law_words.body.tl 4) [some (.d (.tuple (.str w.s :: (as ++ ks)))), some (.d (.list (ss.map .str))), some (.d (.list (pre.map .str))), none] m1) fun fl m2 => Ok (fin false m1.length fl m2) _
      refine xB (x_each ?_)
      simp only [evE_call, evL_cons, evL_nil, evE_var, Ok_bind, Ok_ok, bind_ok, List.getElem?_cons_zero]
      refine hp.ok ?_
      simp only [fz_d, Ok_ok]
      refine ⟨ks, rfl, ?_⟩
      have kl := paired_len hw
      have fle : ∀ i, ((wss.take i).flatten).length ≤ wss.flatten.length := fun i => by
        have : wss.flatten = (wss.take i).flatten ++ (wss.drop i).flatten := by rw [← List.flatten_append, List.take_append_drop]
        rw [this, List.length_append]; omega
      have hz2 : pre.length + wss.flatten.length + 1 ≤ 4000000 := by simpa [Nat.add_assoc] using hz
      refine forL_ok (fun i r m2 => m2 = m1 ∧ ∃ w3, r = [some (.d (.tuple (.str w.s :: (as ++ ks)))), some (.d (.list (ss.map .str))), some (.d (.list ((pre ++ (wss.take i).flatten).map .str))), w3]) (n := 0) ⟨rfl, none, by simp⟩ ?_ ?_
      · rintro i x r m2 ⟨j, hj, hij⟩ ⟨rfl, w3, rfl⟩
        have e1 : i = j := by omega
        subst e1
        obtain ⟨ws, hws, hpu⟩ := paired_at hw hj
        show Ok (evB (callN T (n + 1)) (.cons (.asg 2 _) .nil) [some (.d (.tuple (.str w.s :: (as ++ ks)))), some (.d (.list (ss.map .str))), some (.d (.list ((pre ++ (wss.take i).flatten).map .str))), some (.d x)] m2) _
        have e2 : (wss.take (i + 1)).flatten = (wss.take i).flatten ++ ws := by
          rw [List.take_add_one, hws]; simp
        have l3 := fle (i + 1)
        rw [e2, List.length_append] at l3
        refine xB (x_asg ?_)
        simp only [evE_bin, evE_call, evL_cons, evL_nil, evE_var, Ok_bind, Ok_ok, bind_ok, List.getElem?_cons_zero, List.getElem?_cons_succ]
        refine hpu.ok ?_
        rw [rd2_d, b_addl (by have : sizeLine = 16777216 := rfl; simp only [List.length_map, List.length_append]; omega), opt_some, Ok_ok]
        refine x_nil ⟨rfl, some (.d x), ?_⟩
        rw [e2, ← List.append_assoc, List.map_append (l₂ := ws)]
        rfl
      · rintro r m2 ⟨rfl, w3, rfl⟩
        refine xB (x_ret ?_)
        rw [Nat.zero_add, kl, List.take_length]
        simp only [evE_bin, evE_var, evE_lst, evL_cons, evL_nil, evE_cst, Ct_str, fzL_cons, fzL_nil, fz_d, mkl_f, Ok_bind, Ok_ok, bind_ok, List.getElem?_cons_zero, List.getElem?_cons_succ]
        rw [rd2_d, b_addl (by have : sizeLine = 16777216 := rfl; simp only [List.length_map, List.length_append, List.length_cons, List.length_nil]; omega), opt_some, Ok_ok]
        simp only [fin_d, Ok_ok, take_same rfl]
        exact ⟨by simp, True.intro⟩
end
end Mp
-- Ev27
set_option Elab.async false
set_option linter.all false
set_option maxRecDepth 100000
set_option maxHeartbeats 2000000
namespace Mp
open PySem L2
section
variable {T : Str → Option Fn} {cs : Str → Nat → Prop}
theorem partsP_pu {n : Nat} {x : PyData} {xs : List PyData} (hT : T "parts" = some F_parts) (h : ∀ a ∈ xs, notD a = true) : Pu T (n + 1) "parts" [.d (.tuple (x :: xs))] (.tuple (xs.filter isT)) := .of fun m => by
  refine call_ok hT rfl ?_
  show Ok (evB (callN T n) F_parts.body [some (.d (.tuple (x :: xs))), none] m) fun fl m1 => Ok (fin false m.length fl m1) _
  refine xB (x_ret ?_)
  rw [evE_blt, Ok_bind]
  refine x_lci (fun x => if isT x then some x else none) ?_
  simp only [evI_e, evE_slf, evE_var, evE_cst, Ct_int, Ok_bind, Ok_ok, bind_ok, List.getElem?_cons_zero, rd_d, sl_tup, cutL_from, opt_some, fz_d]
  refine .of ⟨fun a ha acc => ⟨_, rfl, ?_⟩, ?_⟩
  · show Ok (evE (callN T n) (.isi (.var 1) .tuple) [some (Vl.d (PyData.tuple (x :: xs))), some (.d a)] _) _
    simp only [evE_isi, evE_var, List.getElem?_cons_succ, List.getElem?_cons_zero, Ok_bind, Ok_ok, rd_d, isi_tup (h a ha), opB_some]
    refine ⟨True.intro, _, rfl, fun hb => by rw [hb]; rfl, fun hb => ?_⟩
    show Ok (evE (callN T n) (.var 1) [some (Vl.d (PyData.tuple (x :: xs))), some (.d a)] _) _
    simp only [evE_var, List.getElem?_cons_succ, List.getElem?_cons_zero, Ok_ok]
    exact ⟨a, rfl, by rw [hb]; rfl, True.intro⟩
  · rw [fm_filter]
    simp only [Bool.false_eq_true, if_false, rd_d, bl_tupl, outM_val, fin_d, Ok_ok, take_same rfl]
    exact ⟨True.intro, True.intro⟩
end
end Mp
-- Ev28
set_option Elab.async false
set_option linter.all false
set_option maxRecDepth 100000
set_option maxHeartbeats 2000000
namespace Mp
open PySem L2
theorem strs_of : ∀ xs : List Str, strsOf (xs.map .str) = some xs
  | [] => rfl
  | x :: xs => by rw [List.map_cons, strsOf, strs_of xs]; rfl
theorem join_of {s : Str} {xs : List Str} (h : (xs.map Str.length).sum + xs.length * s.length ≤ 16777216) : joinop (.str s) [.list (xs.map .str)] = some (.str (Str.join s xs)) := by
  show (match strsOf (xs.map .str) with | some ys => if (ys.map Str.length).sum + ys.length * s.length ≤ 16777216 then some (PyData.str (Str.join s ys)) else none | none => none) = _
  rw [strs_of]
  exact if_pos h
end Mp
-- Ev29
set_option Elab.async false
set_option linter.all false
set_option maxRecDepth 100000
set_option maxHeartbeats 2000000
namespace Mp
open PySem L2
section
variable {F : Fs} {r : En} {m : Mem} {Q : Fl → Mem → Prop}
theorem x_ext {o k : Nat} {e : Ex} {xs : List PyData} (ho : r[o]? = some (some (.r k))) (hk : m[k]? = some (.lst xs)) (h : Ok (evE F e r m) fun v m1 => ∃ w ys xs, v = .d w ∧ itemsOf w = some ys ∧ m1[k]? = some (.lst xs) ∧ xs.length + ys.length ≤ sizeLine ∧ (∀ m2, m2[k]? = some (.lst (xs ++ ys)) → m2.length = m1.length → (∀ j, j ≠ k → m2[j]? = m1[j]?) → Q (.nx r) m2)) : Ok (evS F (.ext (.var o) e) r m) Q := by
  have hl : lsK m (.r k) = some k := by simp [lsK, hk]
  rw [evS_ext]
  simp only [evE_var, ho, Ok_bind, Ok_ok, hl]
  refine h.mono fun v m1 ⟨w, ys, xs, e, hi, hk1, hz, hq⟩ => ?_
  subst e
  simp only [fz_d, Ok_ok, hk1, hi, if_pos hz]
  exact hq _ (List.getElem?_set_self (List.getElem?_eq_some_iff.mp hk1).1) (List.length_set ..) fun j hj => List.getElem?_set_ne (Ne.symm hj)
end
section
variable {T : Str → Option Fn} {cs : Str → Nat → Prop}
theorem pu_eq {n : Nat} {f : Str} {vs : List Vl} {d d' : PyData} (h : Pu T n f vs d) (h' : Pu T n f vs d') : d = d' := by
  have e := h []
  rw [h' []] at e
  cases e
  rfl
theorem pu_all {n : Nat} {f : Str} {g : List Str → PyData} {ks : List PyData} {wss : List (List Str)} (h : Paired (fun e ws => Pu T n f [.d e] (g ws)) ks wss) : ∀ {ds : List PyData}, Paired (fun e d => Pu T n f [.d e] d) ks ds → ds = wss.map g := by
  induction h with
  | nil => intro ds h; cases h; rfl
  | cons p t ih =>
    intro ds h
    cases h with
    | cons p' t' => rw [pu_eq p' p, ih t']; rfl
theorem size_ks {ks : List PyData} {wss : List (List Str)} (h : Paired Wrd ks wss) : ((wss.map (Str.join " ")).map Str.length).sum ≤ 20 * cntL ks := by
  have s1 : ((" " : Str)).length = 1 := by decide +kernel
  induction h with
  | nil => simp
  | @cons e ws ks wss p t ih =>
    have j := join_len (s := " ") ws
    rw [List.map_cons, List.map_cons, List.sum_cons, cntL]
    have q1 := p.ln
    have q2 := p.sz
    rw [s1] at j
    have e1 : (ws.map Str.length).sum = (ws.map (·.length)).sum := rfl
    omega
end
end Mp
-- Ev30
set_option Elab.async false
set_option linter.all false
set_option maxRecDepth 100000
set_option maxHeartbeats 2000000
namespace Mp
open PySem L2
section
variable {T : Str → Option Fn} {cs : Str → Nat → Prop}
theorem strs_sum {as : List PyData} {ss : List Str} (hs : Paired (fun a s => bltop .str a = some (.val (.str s)) ∧ s.length ≤ 9 ∧ PyData.strOk s = true) as ss) : (ss.map Str.length).sum ≤ 9 * ss.length := by
  induction hs with
  | nil => exact Nat.le_refl _
  | cons p t ih => simp only [List.map_cons, List.sum_cons, List.length_cons]; have := p.2.1; omega
theorem wrd_ne {ks : List PyData} {wss : List (List Str)} (h : Paired Wrd ks wss) : ∀ u ∈ wss, u ≠ [] := by
  induction h with
  | nil => intro u h; cases h
  | cons p t ih =>
    intro u h
    rcases List.mem_cons.mp h with rfl | h
    · exact p.ne
    · exact ih u h
theorem mtK_join {m : Mem} {x : Str} : mtK .join m (.d (.str x)) = true := nr rfl
theorem show_step {w : W} {as ks : List PyData} {ss : List Str} {wss : List (List Str)} {n : Nat} (hP : T "parts" = some F_parts) (hT : T "show" = some F_show) (f : Form cs w as ks.length) (hk : ∀ a ∈ ks, isT a = true ∧ notD a = true) (hs : Paired (fun a s => bltop .str a = some (.val (.str s)) ∧ s.length ≤ 9 ∧ PyData.strOk s = true) as ss)
    (hw : Paired (fun e ws => Pu T (n + 1) "show" [.d e] (.str (Str.join " " ws))) ks wss) (hw2 : Paired Wrd ks wss) (hz : cntL ks ≤ 800000) : Pu T (n + 2) "show" [.d (.tuple (.str w.s :: (as ++ ks)))] (.str (Str.join " " (nodeW w ss wss))) := .of fun m => by
  have hp := partsP_pu (n := n) (x := .str w.s) (xs := as ++ ks) hP fun a ha => (List.mem_append.mp ha).elim (fun z => (f.flat a z).2.1) fun z => (hk a z).2
  rw [(filt_as (fun a ha => (f.flat a ha).1) fun a ha => (hk a ha).1).1] at hp
  refine call_ok hT rfl ?_
  show Ok (evB (callN T (n + 1)) F_show.body [some (.d (.tuple (.str w.s :: (as ++ ks)))), none, none, none] m) fun fl m1 => Ok (fin false m.length fl m1) _
  refine xB (x_ife ?_)
  have cnd : Ok (evE (callN T (n + 1)) (.or (.cons (.cmp .eq (.idx (.var 0) (.cst (.int 0))) (.cst (.str "num"))) (.cons (.cmp .eq (.idx (.var 0) (.cst (.int 0))) (.cst (.str "name"))) .nil))) [some (.d (.tuple (.str w.s :: (as ++ ks)))), none, none, none] m) fun v m1 => m1 = m ∧ v = .d (.bool (decide (w = .num_ ∨ w = .name_))) := by
    simp only [evE_or, evOr_cons, evOr_one, evE_cmp, evE_idx, evE_var, evE_cst, Ct_str, Ct_int, Ok_bind, Ok_ok, List.getElem?_cons_zero, rd2_d, i_tup, atI_0, opt_some, lit_num, lit_name, c_eqs, W.s_inj, opB_some, asB_b]
    by_cases h : w = .num_
    · simp [h]
    · simp only [h, decide_false, false_or, evOr_one, evE_cmp, evE_idx, evE_var, evE_cst, Ct_str, Ct_int, Ok_bind, Ok_ok, List.getElem?_cons_zero, rd2_d, i_tup, atI_0, opt_some, lit_name, c_eqs, W.s_inj, opB_some, asB_b, and_self]
  refine cnd.mono ?_
  rintro v m1 ⟨rfl, rfl⟩
  refine ⟨_, rfl, fun h => ?_, fun h => x_nil ?_⟩
  · have h := of_decide_eq_true h
    have ht : w ≠ .take_ := by rcases h with rfl | rfl <;> decide
    obtain ⟨a, s, rfl, rfl, hb⟩ : ∃ a s, as = [a] ∧ ss = [s] ∧ bltop .str a = some (.val (.str s)) := by
      have : as.length = 1 := by
        rcases h with rfl | rfl
        · obtain ⟨i, e, _⟩ := f.num_inv; rw [e]; rfl
        · obtain ⟨i, e, _⟩ := f.name_inv; rw [e]; rfl
      cases hs with
      | nil => simp at this
      | cons p t =>
        cases t with
        | nil => exact ⟨_, _, rfl, rfl, p.1⟩
        | cons => simp at this
    refine xB (x_ret ?_)
    simp only [evE_blt, evE_idx, evE_var, evE_cst, Ct_int, Ok_bind, Ok_ok, List.getElem?_cons_zero, rd2_d, i_tup, List.cons_append, atI_1, opt_some, rd_d, hb, outM_val, fin_d, take_same rfl]
    refine ⟨?_, True.intro⟩
    unfold nodeW
    rw [if_neg ht, if_pos h]
    rfl
  · have h2 := of_decide_eq_false h
    show Ok (evB (callN T (n + 1)) (F_show.body.tl 1) [some (.d (.tuple (.str w.s :: (as ++ ks)))), none, none, none] m1) fun fl m2 => Ok (fin false m1.length fl m2) _
    refine xB (x_ife ?_)
    simp only [evE_cmp, evE_idx, evE_var, evE_cst, Ct_str, Ct_int, Ok_bind, Ok_ok, List.getElem?_cons_zero, rd2_d, i_tup, atI_0, opt_some, lit_take, c_eqs, W.s_inj, opB_some]
    refine ⟨_, rfl, fun h => ?_, fun h => x_nil ?_⟩
    · have h := of_decide_eq_true h
      refine xB (x_ret ?_)
      simp only [evE_cst, Ct_str, Ok_ok, fin_d, take_same rfl]
      refine ⟨?_, True.intro⟩
      unfold nodeW
      rw [if_pos h]
      rfl
    · have h1 := of_decide_eq_false h
      have en : nodeW w ss wss = ([("(" : Str)] ++ (if w = .op_ then [] else [w.s]) ++ ss) ++ (wss.flatten ++ [(")" : Str)]) := by
        unfold nodeW
        rw [if_neg h1, if_neg h2]
        simp only [List.append_assoc]
      have s1 : ss.length ≤ 1 := by rw [← paired_len hs]; exact f.small.1
      have k6 := f.small.2
      have kl := paired_len hw
      show Ok (evB (callN T (n + 1)) (F_show.body.tl 2) [some (.d (.tuple (.str w.s :: (as ++ ks)))), none, none, none] m1) fun fl m2 => Ok (fin false m1.length fl m2) _
      refine xB (x_asg ?_)
      simp only [evE_lst, evL_cons, evL_nil, evE_cst, Ct_str, fzL_cons, fzL_nil, fz_d, mkl_t, Ok_bind, Ok_ok, bind_ok, List.set_cons_zero, List.set_cons_succ]
      -- from the heads on
      have rest : ∀ pre : List Str, pre = [("(" : Str)] ++ (if w = .op_ then [] else [w.s]) → Ok (evB (callN T (n + 1)) (F_show.body.tl 4) [some (.d (.tuple (.str w.s :: (as ++ ks)))), some (.r m1.length), none, none] (m1 ++ [.lst (pre.map .str)])) fun fl m2 => Ok (fin false m1.length fl m2) fun v m' => v = .d (.str (Str.join " " (nodeW w ss wss))) ∧ m' = m1 := by
        intro pre hpre
        have pl : pre.length ≤ 2 := by rw [hpre]; split <;> simp
        refine xB (x_ext (k := m1.length) rfl at_last ?_)
        refine heads_ok f hk hs rfl (by decide) (by simp) ?_
        refine ⟨_, _, _, rfl, rfl, at_last, by have : sizeLine = 16777216 := rfl; simp only [List.length_map]; omega, fun m2 h3 h4 h5 => ?_⟩
        rw [mem_last h3 h4 h5, ← List.map_append]
        refine xB (x_ext (k := m1.length) rfl at_last ?_)
        refine x_lcE (fun e d => Pu T (n + 1) "show" [.d e] d) ?_
        simp only [evI_e, evE_call, evL_cons, evL_nil, evE_var, Ok_bind, Ok_ok, bind_ok, List.getElem?_cons_zero]
        refine hp.ok ?_
        simp only [fz_d, Ok_ok]
        refine .of ⟨fun a ha acc => ⟨_, rfl, ?_⟩, ?_⟩
        · show Ok (R.ok (Vl.d a) _) _
          rw [Ok_ok]
          obtain ⟨i, hi⟩ := List.getElem?_of_mem ha
          obtain ⟨ws, _, hpu⟩ := paired_at hw hi
          exact hpu.ok ⟨_, rfl, hpu, rfl⟩
        · intro ds hds
          have e := pu_all hw hds
          subst e
          simp only [Bool.false_eq_true, if_false]
          refine ⟨_, _, _, rfl, rfl, at_last, by have : sizeLine = 16777216 := rfl; simp only [List.length_map, List.length_append]; omega, fun m3 h3 h4 h5 => ?_⟩
          rw [mem_last h3 h4 h5]
          have q0 : (m1 ++ [Cell.lst ((pre ++ ss).map PyData.str ++ wss.map fun ws => PyData.str (Str.join " " ws))])[m1.length]? = some (.lst ((pre ++ ss).map PyData.str ++ wss.map fun ws => PyData.str (Str.join " " ws))) := at_last
          have q1 : (pre ++ ss).map PyData.str ++ (wss.map fun ws => PyData.str (Str.join " " ws)) ++ [PyData.str ")"] = ((pre ++ ss) ++ (wss.map (Str.join " ") ++ [(")" : Str)])).map .str := by simp
          have zs := size_ks hw2
          have sl9 := strs_sum hs
          have pl5 : (pre.map Str.length).sum ≤ 6 := by
            have w5 := w.ok.2
            have b1 : (("(" : Str)).length = 1 := by decide +kernel
            rw [hpre]
            split <;> simp [b1]
            omega
          have wne := wrd_ne hw2
          have b1 : ((")" : Str)).length = 1 ∧ ((" " : Str)).length = 1 := by decide +kernel
          refine xB (x_ret ?_)
          simp only [evE_mth, evE_cst, Ct_str, Ok_bind, Ok_ok, mtK_join, evL_cons, evL_nil, evE_bin, evE_var, evE_lst, fzL_cons, fzL_nil, fz_d, mkl_f, bind_ok, List.getElem?_cons_succ, List.getElem?_cons_zero, rd2, rd_lst q0, rd_d]
          rw [b_addl (by have : sizeLine = 16777216 := rfl; simp only [List.length_map, List.length_append, List.length_cons, List.length_nil]; omega), q1]
          simp only [opt_some, Ok_ok, bind_ok, fz_d, mthop, fzL_nil, rd_d]
          rw [join_of (by simp only [List.map_append, List.sum_append, List.length_append, List.map_map, List.length_map, List.map_cons, List.map_nil, List.sum_cons, List.sum_nil, List.length_cons, List.length_nil, b1.1, b1.2]; simp only [List.map_map] at zs; omega)]
          simp only [opt_some, Ok_ok, fin_d]
          rw [join_flat wne]
          refine ⟨?_, List.take_left' rfl⟩
          rw [en, hpre]
      refine xB (x_ife ?_)
      simp only [evE_cmp, evE_idx, evE_var, evE_cst, Ct_str, Ct_int, Ok_bind, Ok_ok, List.getElem?_cons_zero, rd2_d, i_tup, atI_0, opt_some, lit_op, c_nes, W.s_inj, opB_some]
      refine ⟨_, rfl, fun h => ?_, fun h => x_nil ?_⟩
      · have h : w ≠ .op_ := by simpa using h
        refine xB (x_app (k := m1.length) rfl at_last ?_)
        simp only [evE_idx, evE_var, evE_cst, Ct_int, Ok_bind, Ok_ok, List.getElem?_cons_zero, rd2_d, i_tup, atI_0, opt_some]
        refine ⟨_, _, rfl, at_last, by decide, fun m2 h3 h4 h5 => x_nil ?_⟩
        rw [mem_last h3 h4 h5]
        exact rest ["(", w.s] (by rw [if_neg h]; rfl)
      · have h : w = .op_ := by simpa using h
        exact rest ["("] (by rw [if_pos h]; rfl)
end
end Mp
-- Ev31
set_option Elab.async false
set_option linter.all false
set_option maxRecDepth 100000
set_option maxHeartbeats 2000000
namespace Mp
open PySem L2
section
variable {T : Str → Option Fn} {cs : Str → Nat → Prop}
theorem cnt_node {w : W} {as ks : List PyData} (f : Form cs w as ks.length) : cnt (.tuple (.str w.s :: (as ++ ks))) = 1 + cntL ks := by
  have es : cnt (.str w.s) = 0 := by rw [cnt]; intro xs h; cases h
  have e0 : cntL as = 0 := by
    have : ∀ l : List PyData, (∀ a ∈ l, cnt a = 0) → cntL l = 0 := by
      intro l
      induction l with
      | nil => intro _; rfl
      | cons x l ih => intro h; rw [cntL, h x List.mem_cons_self, ih fun y hy => h y (List.mem_cons_of_mem _ hy)]
    exact this as fun a ha => (f.flat a ha).2.2
  rw [cnt, cntL, cntL_app, es, e0]; omega
theorem cnt_mem {ks : List PyData} : ∀ a ∈ ks, cnt a ≤ cntL ks := by
  induction ks with
  | nil => intro a h; cases h
  | cons x xs ih =>
    intro a h
    rw [cntL]
    rcases List.mem_cons.mp h with rfl | h
    · omega
    · have := ih a h; omega
/-- the words that are told, and the text -/
structure Told (T : Str → Option Fn) (n : Nat) (e : PyData) (ws : List Str) : Prop where
  wd : Wrd e ws
  wp : Pu T n "_law_words" [.d e] (.list (ws.map .str))
  sh : Pu T n "show" [.d e] (.str (Str.join " " ws))
theorem told_split {n : Nat} {ks : List PyData} (h : ∀ a ∈ ks, ∃ ws, Told T n a ws) : ∃ wss, Paired (fun e ws => Pu T n "_law_words" [.d e] (.list (ws.map .str))) ks wss ∧ Paired (fun e ws => Pu T n "show" [.d e] (.str (Str.join " " ws))) ks wss ∧ Paired Wrd ks wss := by
  induction ks with
  | nil => exact ⟨[], .nil, .nil, .nil⟩
  | cons x xs ih =>
    obtain ⟨ws, h1⟩ := h x List.mem_cons_self
    obtain ⟨wss, p1, p2, p3⟩ := ih fun a ha => h a (List.mem_cons_of_mem _ ha)
    exact ⟨ws :: wss, .cons h1.wp p1, .cons h1.sh p2, .cons h1.wd p3⟩
theorem told_ok (hP : T "_law_parts" = some F_law_parts) (hW : T "_law_words" = some F_law_words) (hQ : T "parts" = some F_parts) (hS : T "show" = some F_show) : ∀ (d n : Nat) (e : PyData), Tr cs d e → cnt e ≤ 800000 → ∃ ws, Told T (n + d + 1) e ws
  | 0, n, e, h, _ => by cases h
  | d + 1, n, e, h, hz => by
    obtain ⟨w, as, ks, d', hd, rfl, f, hk, _⟩ := h.parts (n := n) hP
    have hd : d' = d := by omega
    subst hd
    rw [cnt_node f] at hz
    obtain ⟨wss, p1, p2, p3⟩ := told_split fun a ha => told_ok hP hW hQ hS d' n a (hk a ha) (by have := cnt_mem a ha; omega)
    obtain ⟨ss, hs⟩ := f.strs
    have hk2 : ∀ a ∈ ks, isT a = true ∧ notD a = true := fun a ha => (hk a ha).isT
    have wn := words_node f hs p3
    have hl := wn.ln
    rw [cnt_node f] at hl
    exact ⟨nodeW w ss wss, wn, words_step (n := n + d') hP hW f hk2 hs p1 (by omega), show_step (n := n + d') hQ hS f hk2 hs p2 p3 (by omega)⟩
end
end Mp
-- Ev32
set_option Elab.async false
set_option linter.all false
set_option maxRecDepth 100000
set_option maxHeartbeats 2000000
namespace Mp
open PySem L2
section
variable {F : Fs} {r : En} {m : Mem} {Q : Vl → Mem → Prop}
theorem at_lenD {α : Type} {xs : List α} {x : α} : (xs ++ [x])[xs.length]? = some x := by simp
def AgL (k : Nat) (m m' : Mem) : Prop := ∀ j, j < k → m'[j]? = m[j]?
/-- a comprehension that changes cells that stood before -/
theorem x_lcF {e : Ex} {tg : Tg} {it : Mp.It} (S : List Nat) (J : Nat → Mem → Prop) (P : Nat → PyData → PyData → Prop)
    (h : Ok (evI F it r m) fun xs m1 => (∀ i m2 m3, J i m2 → AgL m1.length m2 m3 → J i m3) ∧ (∀ j ∈ S, j < m1.length) ∧ J 0 m1 ∧
      (∀ i x m', xs[i]? = some x → m'.length = m1.length + 1 → J i m' → Ext S m1 m' → ∃ r1, bindT (wipeE r tg.slots) tg x = some r1 ∧ Ok (evE F e r1 m') fun v m2 => ∃ d, v = .d d ∧ P i x d ∧ J (i + 1) m2 ∧ Frm S m' m2) ∧
      ∀ ds m2, ds.length = xs.length → (∀ (i : Nat) x d, xs[i]? = some x → ds[i]? = some d → P i x d) → J xs.length m2 → Frm S m1 m2 → Q (.d (.list ds)) m2) :
    Ok (evE F (.lc false e tg it) r m) Q := by
  show Ok ((evI F it r m).bind _) Q
  rw [Ok_bind]
  refine h.mono fun xs m1 ⟨hJ, hS, h0, hb, hq⟩ => ?_
  rw [Ok_bind]
  refine lcL_ok (fun n acc m' => n ≤ xs.length ∧ m'.length = m1.length + 1 ∧ acc.length = n ∧ (∀ (i : Nat) x d, xs[i]? = some x → acc[i]? = some d → P i x d) ∧ J n m' ∧ Ext S m1 m') (acc := []) (Nat.le_refl _) at_last
    ⟨Nat.zero_le _, by simp, rfl, (fun i x d _ h => by simp at h), hJ 0 m1 _ h0 (fun j hj => List.getElem?_append_left hj), .al _ _ _⟩ ?_ ?_
  · rintro i x m' acc ⟨j, hj, hij⟩ hk ⟨hi, hl, hal, hp, hJi, hx⟩
    have e1 : i = j := by omega
    subst e1
    have hjl := (List.getElem?_eq_some_iff.mp hj).1
    obtain ⟨r1, e1, ⟨v, m2, e2, d, rfl, e3, hJ2, fr⟩⟩ := hb i x m' hj hl hJi hx
    simp only [e1, e2, bind_ok, fz_d]
    have hk2 : m2[m1.length]? = some (.lst acc) := (fr.2 _ fun q => absurd (hS _ q) (by omega)).trans hk
    refine .of ⟨hk2, by omega, by rw [List.length_set, fr.1, hl], by simp [hal], fun i' x' d' h1 h2 => ?_, ?_, ?_⟩
    · rcases Nat.lt_or_ge i' acc.length with q | q
      · rw [List.getElem?_append_left q] at h2
        exact hp i' x' d' h1 h2
      · have e5 : i' = i := by
          rcases Nat.lt_or_ge i' (acc.length + 1) with q2 | q2
          · omega
          · rw [List.getElem?_eq_none (by simpa using q2)] at h2; cases h2
        subst e5
        rw [hj] at h1
        cases h1
        rw [← hal, at_lenD] at h2
        cases h2
        exact e3
    · exact hJ _ m2 _ hJ2 fun j hj => List.getElem?_set_ne (by omega)
    · exact (hx.frm fr fun j h _ => h).set (.inl (Nat.le_refl _))
  · rintro m' acc hk ⟨hi, hl, hal, hp, hJi, hx⟩
    rw [Nat.zero_add] at hal hJi
    have e : lcE false m1.length m' = R.ok (.d (.list acc)) (m'.take m1.length) := by
      unfold lcE
      rw [hk]
      rfl
    rw [e, Ok_ok]
    exact hq acc _ hal hp (hJ _ m' _ hJi fun j hj => List.getElem?_take_of_lt hj) hx.done
end
section
variable {T : Str → Option Fn} {L : Nat} {c : Int} {m : Mem} {kf kw : Nat}
theorem names_L {many : Int} (hL : 3 ≤ L) (hT : Has T) (hm : Fd c m kf) (h0 : 0 ≤ many) (h1 : many ≤ 1000) (hc : c + 8 * many ≤ 2 ^ 62) :
    Ok (callN T L "_law_names" [.r kf, .d (.int many)] m) (namesQ c m kf many.toNat) := by
  obtain ⟨n, rfl⟩ : ∃ n, L = n + 3 := ⟨L - 3, by omega⟩
  exact names_ok hT.draw hT.spelled hT.name hT.names hm h0 h1 hc
theorem name_L {xs : List Str} {tv : Vl} (hL : 2 ≤ L) (hT : Has T) (hm : Fd c m kf) (hc : c + 8 ≤ 2 ^ 62) (ht : ∀ m', Frm [kf] m m' → rd m' tv = some (.list (xs.map .str))) (hx : ∀ x ∈ xs, Nm x) (hz : xs.length ≤ 1000) :
    Ok (callN T L "_law_name" [.r kf, tv] m) fun v m' => ∃ y, v = .d (.str y) ∧ Nw y ∧ y ∉ xs ∧ Fd (c + 8) m' kf ∧ Frm [kf] m m' := by
  obtain ⟨n, rfl⟩ : ∃ n, L = n + 2 := ⟨L - 2, by omega⟩
  exact (name_ok hT.draw hT.spelled hT.name hm hc ht hx hz).mono fun v m' ⟨y, h1, h2, h3, h4⟩ => ⟨y, h1, ⟨h2.nm, h2.now⟩, h2.new, h3.weak (by omega) hc, h4⟩
theorem dp_two : ∀ b ro, 1 ≤ b → dp 2 b ro ≤ b
  | 0, _, h => by omega
  | 1, _, _ => Nat.le_refl _
  | b + 2, ro, _ => by
    have := dp_two (b + 1) (ro - 1) (by omega)
    unfold dp
    split <;> omega
end
end Mp
-- Ev33
set_option Elab.async false
set_option linter.all false
set_option maxRecDepth 100000
set_option maxHeartbeats 2000000
namespace Mp
open PySem L2
def anyC : Str → Nat → Prop := fun _ _ => True
section
variable {T : Str → Option Fn} {L : Nat} {c : Int} {m : Mem} {kf kw : Nat}
def drawnQ (c : Int) (m : Mem) (kf : Nat) (v : Vl) (m' : Mem) : Prop := ∃ e, v = .d e ∧ Gd anyC 12 [] e ∧ cnt e ≤ 700000 ∧ Fd c m' kf ∧ Frm [kf] m m'
def pairD (p : Str × Int) : PyData := .tuple [.str p.1, .int p.2]
theorem pairs_of : ∀ l : List (Str × Int), pairsOf (l.map fnD) = some (l.map fun p => (.inr p.1, .int p.2))
  | [] => rfl
  | p :: l => by rw [List.map_cons, pairsOf.eq_def]; simp only [fnD, kOf, pairs_of l]; rfl
theorem fm_fn {f : PyData → Option PyData} {h : Str × Int → PyData} (e : ∀ p, f (fnD p) = some (h p)) : ∀ l : List (Str × Int), (l.map fnD).filterMap f = l.map h
  | [] => rfl
  | p :: l => by rw [List.map_cons, List.filterMap_cons_some (e p), fm_fn e l]; rfl
/-- a dict whose values are whole numbers -/
def Ints (l : List (Key × PyData)) : Prop := ∀ p ∈ l, ∃ i : Int, p.2 = .int i
def hasK (l : List (Key × PyData)) (k : Key) : Bool := l.any fun p => decide (p.1 = k)
theorem look_has {l : List (Key × PyData)} {k : Key} (h : Ints l) (hk : hasK l k = true) : ∃ i : Int, lookK l k = some (.int i) := by
  unfold lookK
  cases e : l.find? fun p => decide (p.1 = k) with
  | none =>
    rw [List.find?_eq_none] at e
    obtain ⟨p, hp, hd⟩ := List.any_eq_true.mp hk
    exact absurd hd (e p hp)
  | some p =>
    obtain ⟨i, hi⟩ := h p (List.mem_of_find?_eq_some e)
    exact ⟨i, by rw [Option.map_some, hi]⟩
theorem put_ints {l : List (Key × PyData)} {k : Key} {i : Int} (h : Ints l) : Ints (putKK l k (.int i)) := by
  intro p hp
  unfold putKK at hp
  split at hp
  · obtain ⟨q, hq, e⟩ := List.mem_map.mp hp
    split at e
    · exact ⟨i, by rw [← e]⟩
    · rw [← e]; exact h q hq
  · rcases List.mem_append.mp hp with hp | hp
    · exact h p hp
    · have : p = (k, .int i) := by simpa using hp
      exact ⟨i, by rw [this]⟩
theorem put_has {l : List (Key × PyData)} {k k' : Key} {v : PyData} (h : hasK l k' = true ∨ k' = k) : hasK (putKK l k v) k' = true := by
  unfold putKK
  split
  · rename_i ha
    have up : ∀ k', hasK l k' = true → hasK (l.map fun p => if p.1 = k then (p.1, v) else p) k' = true := by
      intro k' h
      obtain ⟨p, hp, hd⟩ := List.any_eq_true.mp h
      refine List.any_eq_true.mpr ⟨_, List.mem_map_of_mem hp, ?_⟩
      split <;> exact hd
    rcases h with h | rfl
    · exact up _ h
    · exact up _ ha
  · unfold hasK
    rw [List.any_append, Bool.or_eq_true]
    rcases h with h | rfl
    · exact .inl h
    · exact .inr (by simp)
theorem put_len {l : List (Key × PyData)} {k : Key} {v : PyData} : (putKK l k v).length ≤ l.length + 1 := by
  unfold putKK
  split <;> simp
theorem dict_of {l : List (Key × PyData)} (h : Ints l) : Ints (dictOfP l) ∧ ∀ p ∈ l, hasK (dictOfP l) p.1 = true := by
  have gen : ∀ (l acc : List (Key × PyData)), Ints l → Ints acc → Ints (l.foldl (fun acc p => putKK acc p.1 p.2) acc) ∧ (∀ k, hasK acc k = true → hasK (l.foldl (fun acc p => putKK acc p.1 p.2) acc) k = true) ∧ ∀ p ∈ l, hasK (l.foldl (fun acc p => putKK acc p.1 p.2) acc) p.1 = true := by
    intro l
    induction l with
    | nil => intro acc _ ha; exact ⟨ha, (fun _ h => h), fun _ h => by cases h⟩
    | cons q l ih =>
      intro acc hl ha
      obtain ⟨i, hi⟩ := hl q List.mem_cons_self
      rw [List.foldl_cons, hi]
      obtain ⟨h1, h2, h3⟩ := ih (putKK acc q.1 (.int i)) (fun p hp => hl p (List.mem_cons_of_mem _ hp)) (put_ints ha)
      refine ⟨h1, fun k hk => h2 k (put_has (.inl hk)), fun p hp => ?_⟩
      rcases List.mem_cons.mp hp with rfl | hp
      · exact h2 _ (put_has (.inr rfl))
      · exact h3 p hp
  obtain ⟨h1, _, h3⟩ := gen l [] h (fun _ h => by cases h)
  exact ⟨h1, h3⟩
theorem bl_dictl {xs : List PyData} {l : List (Key × PyData)} (h : pairsOf xs = some l) : bltop .dict (.list xs) = some (.dct (dictOfP l)) := by
  show (pairsOf xs).map (fun l => Out.dct (dictOfP l)) = _
  rw [h]; rfl
theorem drawn_ok {room : Int} (hT : Has T) (hS : T "_law_seeds" = some F_law_seeds) (hW : T "_law_world!" = some F_law_world_r) (hD : T "_law_drawn" = some F_law_drawn) (hL : 40 ≤ L) (hm : Fd c m kf) (hr : room ≤ 40) (hc : c + 10 ^ 9 ≤ 2 ^ 62) :
    Ok (callN T (L + 1) "_law_drawn" [.r kf, .d (.int room)] m) (drawnQ (c + 10 ^ 9) m kf) := by
  have hE4 : EB 4 = 144060 := by decide
  have hkf := hm.lt
  refine call_ok hD rfl ?_
  show Ok (evB (callN T L) F_law_drawn.body [some (.r kf), some (.d (.int room)), none, none, none, none, none, none, none, none, none, none] m) fun fl m1 => Ok (fin false m.length fl m1) _
  refine xB (x_asg ?_)
  simp only [evE_call, evL_cons, evL_nil, evE_bin, evE_var, evE_cst, Ct_int, Ok_bind, Ok_ok, bind_ok, List.getElem?_cons_zero, List.getElem?_cons_succ]
  refine (draw_L (by omega) hT.draw hm (by decide) (by decide) (by omega)).mono ?_
  rintro v m1 ⟨i, rfl, i0, i1, hm1, fr1⟩
  simp only [rd2_d, b_add, opt_some, Ok_ok]
  refine (names_L (by omega) hT hm1 (by omega) (by omega) (by omega)).mono ?_
  rintro v m2 ⟨ns, rfl, hnl, hns, hnd, hm2, fr2⟩
  have fr02 := fr1.trans fr2
  obtain ⟨n0, n1, nt, rfl⟩ : ∃ n0 n1 nt, ns = n0 :: n1 :: nt := by
    rcases ns with _ | ⟨a, _ | ⟨b, t⟩⟩
    · simp at hnl; omega
    · simp at hnl; omega
    · exact ⟨a, b, t, rfl⟩
  generalize hnn : n0 :: n1 :: nt = ns at hnl hns hnd
  have hw0 : Nw n0 := hns n0 (by simp [← hnn])
  have hw1 : Nw n1 := hns n1 (by simp [← hnn])
  have e0 : idxop (.list (ns.map .str)) (.int 0) = some (.str n0) := by rw [← hnn]; exact i_list.trans atI_0
  have e1 : idxop (.list (ns.map .str)) (.int 1) = some (.str n1) := by rw [← hnn]; exact i_list.trans atI_1
  clear hnn
  refine xB (x_asg ?_)
  simp only [evE_lst, evL_cons, evL_nil, evE_call, evE_idx, evE_var, evE_cst, Ct_int, Ok_bind, Ok_ok, bind_ok, List.getElem?_cons_zero, List.getElem?_cons_succ, List.set_cons_zero, List.set_cons_succ]
  refine (name_L (c := c + 200) (xs := ns) (by omega) hT (hm2.weak (by omega) (by omega)) (by omega) (fun _ _ => rfl) (fun x h => (hns x h).1) (by omega)).mono ?_
  rintro v m3 ⟨l0, rfl, hl0, _, hm3, fr3⟩
  have fr03 := fr02.trans fr3
  simp only [rd2_d, e0, opt_some, fzL_cons, fzL_nil, fz_d, mkl_f, Ok_bind, Ok_ok, bind_ok]
  have el : [PyData.str l0, PyData.str n0] = [l0, n0].map .str := rfl
  rw [el]
  -- the calls
  refine xB (x_asg ?_)
  refine x_lcF [kf] (fun i m' => Fd (c + 300 + i) m' kf) (fun _ x d => ∃ (y : Str) (k : Int), x = .str y ∧ d = fnD (y, k) ∧ 0 ≤ k ∧ k ≤ 6) ?_
  simp only [evI_e, evE_call, evL_cons, evL_nil, evE_var, evE_cst, Ct_int, Ok_bind, Ok_ok, bind_ok, List.getElem?_cons_zero, List.getElem?_cons_succ]
  refine (names_L (by omega) hT hm3 (by decide) (by decide) (by omega)).mono ?_
  rintro v m4 ⟨ys, rfl, hyl, hys, hyd, hm4, fr4⟩
  have fr04 := fr03.trans fr4
  have hkf4 := hm4.lt
  refine .of (.of ⟨fun i m' m'' h ag => h.of (ag kf hkf4), (fun j hj => by simp at hj; omega), hm4.weak (by omega) (by omega), ?_, ?_⟩)
  · rintro i x m' hx hl hf hxx
    have hil := (List.getElem?_eq_some_iff.mp hx).1
    rw [List.length_map, hyl] at hil
    have hi2 : i < 2 := hil
    obtain ⟨y, hy, rfl⟩ := List.mem_map.mp (List.mem_of_getElem? hx)
    refine ⟨_, rfl, ?_⟩
    show Ok (evE (callN T L) (.tup (.cons (.var 10) (.cons (.call "_law_draw" (.cons (.var 0) (.cons (.cst (.int 7)) .nil))) .nil))) [some (.r kf), some (.d (.int room)), some (.d (.list (ns.map .str))), some (.d (.list ([l0, n0].map .str))), none, none, none, none, none, none, some (.d (.str y)), none] m') _
    simp only [evE_tup, evE_call, evL_cons, evL_nil, evE_var, evE_cst, Ct_int, Ok_bind, Ok_ok, bind_ok, List.getElem?_cons_zero, List.getElem?_cons_succ]
    refine (draw_L (by omega) hT.draw hf (by decide) (by decide) (by omega)).mono ?_
    rintro v m5 ⟨k, rfl, k0, k1, hm5, fr5⟩
    simp only [fzL_cons, fzL_nil, fz_d, Ok_bind, Ok_ok, bind_ok]
    exact ⟨_, rfl, ⟨y, k, rfl, rfl, k0, by omega⟩, hm5.weak (by push_cast; omega) (by omega), fr5⟩
  · intro ds m5 hdl hdp hm5 fr5
    have fr05 := fr04.trans fr5
    obtain ⟨fs, rfl, hfs, hfl⟩ : ∃ fs : List (Str × Int), ds = fs.map fnD ∧ (∀ f ∈ fs, Nw f.1 ∧ 0 ≤ f.2 ∧ f.2 ≤ 6) ∧ fs.length = 2 := by
      have gen : ∀ (ds : List PyData), (∀ (i : Nat) d, ds[i]? = some d → ∃ (y : Str) (k : Int), Nw y ∧ d = fnD (y, k) ∧ 0 ≤ k ∧ k ≤ 6) → ∃ fs : List (Str × Int), ds = fs.map fnD ∧ (∀ f ∈ fs, Nw f.1 ∧ 0 ≤ f.2 ∧ f.2 ≤ 6) := by
        intro ds
        induction ds with
        | nil => intro _; exact ⟨[], rfl, fun _ h => by cases h⟩
        | cons d ds ih =>
          intro h
          obtain ⟨y, k, h1, h2, h3, h4⟩ := h 0 d rfl
          obtain ⟨fs, e, hf⟩ := ih fun i d hi => h (i + 1) d hi
          refine ⟨(y, k) :: fs, by rw [List.map_cons, ← e, h2], fun f hf2 => ?_⟩
          rcases List.mem_cons.mp hf2 with rfl | hf2
          · exact ⟨h1, h3, h4⟩
          · exact hf f hf2
      obtain ⟨fs, e, hf⟩ := gen ds fun i d hd => by
        have hi : i < (ys.map PyData.str).length := by rw [← hdl]; exact (List.getElem?_eq_some_iff.mp hd).1
        obtain ⟨x, hx⟩ : ∃ x, (ys.map PyData.str)[i]? = some x := ⟨_, List.getElem?_eq_getElem hi⟩
        obtain ⟨y, k, h1, h2, h3, h4⟩ := hdp i x d hx hd
        subst h1
        obtain ⟨y', hy', e⟩ := List.mem_map.mp (List.mem_of_getElem? hx)
        cases e
        exact ⟨y, k, hys y hy', h2, h3, h4⟩
      refine ⟨fs, e, hf, ?_⟩
      rw [e, List.length_map, List.length_map, hyl] at hdl
      exact hdl
    simp only [List.set_cons_zero, List.set_cons_succ]
    -- the works
    refine xB (x_asg ?_)
    rw [evE_blt, Ok_bind]
    have g1 : ∀ p : Str × Int, (fun x : PyData => match x with | .tuple [.str y, _] => some (PyData.tuple [.str y, .int 1]) | _ => none) (fnD p) = some (fnD (p.1, 1)) := fun p => rfl
    refine x_lc (fun x : PyData => match x with | .tuple [.str y, _] => some (PyData.tuple [.str y, .int 1]) | _ => none) ?_
    simp only [evI_e, evE_var, Ok_bind, Ok_ok, bind_ok, List.getElem?_cons_zero, List.getElem?_cons_succ, fz_d]
    refine .of ⟨fun x hx acc => ?_, ?_⟩
    · obtain ⟨⟨y, k⟩, hp, rfl⟩ := List.mem_map.mp hx
      refine ⟨_, rfl, ?_⟩
      show Ok (evE (callN T L) (.tup (.cons (.var 10) (.cons (.cst (.int 1)) .nil))) [some (.r kf), some (.d (.int room)), some (.d (.list (ns.map .str))), some (.d (.list ([l0, n0].map .str))), some (.d (.list (fs.map fnD))), none, none, none, none, none, some (.d (.str y)), some (.d (.int k))] (m5 ++ [.lst acc])) _
      simp only [evE_tup, evL_cons, evL_nil, evE_var, evE_cst, Ct_int, Ok_bind, Ok_ok, bind_ok, List.getElem?_cons_zero, List.getElem?_cons_succ, fzL_cons, fzL_nil, fz_d]
      exact ⟨_, rfl, rfl, True.intro⟩
    have e2 : (fs.map fnD).filterMap (fun x : PyData => match x with | .tuple [.str y, _] => some (PyData.tuple [.str y, .int 1]) | _ => none) = (fs.map fun p => (p.1, (1 : Int))).map fnD := by rw [fm_fn g1, List.map_map]; rfl
    rw [e2]
    simp only [Bool.false_eq_true, if_false, rd_d]
    have hdc := dict_of (l := (fs.map fun p => (p.1, (1 : Int))).map fun p => ((.inr p.1 : Key), PyData.int p.2)) fun p hp => by
      obtain ⟨q, _, rfl⟩ := List.mem_map.mp hp
      exact ⟨_, rfl⟩
    rw [bl_dictl (pairs_of _)]
    generalize dictOfP ((fs.map fun p => (p.1, (1 : Int))).map fun p => ((.inr p.1 : Key), PyData.int p.2)) = wl at hdc
    simp only [outM_dct, Ok_ok, List.set_cons_zero, List.set_cons_succ]
    have hwl : Wks (fun x k => ∃ f ∈ fs, f.1 = x ∧ f.2.toNat = k) wl := by
      rintro x k ⟨f, hf, rfl, rfl⟩
      exact look_has hdc.1 (hdc.2 (.inr f.1, .int 1) (List.mem_map.mpr ⟨(f.1, 1), List.mem_map.mpr ⟨f, hf, rfl⟩, rfl⟩))
    have hx6 : Ext [kf] m (m5 ++ [Cell.dct wl]) := ⟨by simp [fr05.1], fun j hj hn => (List.getElem?_append_left (by rw [fr05.1]; exact hj)).trans (fr05.2 j hn)⟩
    have hk6 : (m5 ++ [Cell.dct wl])[m.length]? = some (.dct wl) := by rw [← fr05.1]; exact at_last
    have hm6 : Fd (c + 400) (m5 ++ [Cell.dct wl]) kf := (hm5.of (List.getElem?_append_left hm5.lt)).weak (by simp only [List.length_map, hyl]; show c + 300 + 2 ≤ c + 400; omega) (by omega)
    have hl6 : (m5 ++ [Cell.dct wl]).length = m.length + 1 := by simp [fr05.1]
    have hml : m5.length = m.length := fr05.1
    rw [hml]
    generalize m5 ++ [Cell.dct wl] = m6 at hx6 hk6 hm6 hl6
    -- the world
    refine xB (x_asg ?_)
    have hpw : binop .pow (.int 10) (.int 9) = some (.int 1000000000) := b_pow (by decide) (by decide) (by decide)
    simp only [evE_call, evL_cons, evL_nil, evE_bin, evE_var, evE_cst, Ct_int, Ok_bind, Ok_ok, bind_ok, List.getElem?_cons_zero, List.getElem?_cons_succ, rd2_d, hpw, opt_some]
    obtain ⟨L', rfl⟩ : ∃ L', L = L' + 1 := ⟨L - 1, by omega⟩
    refine world_ok hW hk6 ?_
    simp only [List.set_cons_zero, List.set_cons_succ]
    have ok0 : WOk (fun x k => ∃ f ∈ fs, f.1 = x ∧ f.2.toNat = k) 1 ⟨ns, [l0, n0], fs, wl, []⟩ := ⟨hns, (by intro h; have h : ns = [] := h; rw [h] at hnl; simp at hnl; omega), by show ns.length ≤ 100; omega, (fun x hx => by
        rcases List.mem_cons.mp hx with rfl | hx
        · exact hl0
        · have : x = n0 := by simpa using hx
          rw [this]; exact hw0), (by show 2 ≤ 100; decide), (fun f hf => ⟨⟨f, hf, rfl, rfl⟩, (hfs f hf).1, (hfs f hf).2.1, (hfs f hf).2.2⟩), (by show fs.length ≤ 100; omega), hwl, (fun _ h => by cases h), Nat.zero_le _, Nat.le_refl _, by decide⟩
    have hx7 : Ext [kf] m (m6.set m.length (.frz (.dict (reK wl))) ++ [Cell.dct (worldD ⟨ns, [l0, n0], fs, wl, []⟩ room 1000000000)]) := (hx6.set (.inl (Nat.le_refl _))).app
    have hm7 : Fd (c + 400) (m6.set m.length (.frz (.dict (reK wl))) ++ [Cell.dct (worldD ⟨ns, [l0, n0], fs, wl, []⟩ room 1000000000)]) kf := (hm6.of (List.getElem?_set_ne (by omega))).of (List.getElem?_append_left (by rw [List.length_set]; omega))
    have hl7 : (m6.set m.length (.frz (.dict (reK wl))) ++ [Cell.dct (worldD ⟨ns, [l0, n0], fs, wl, []⟩ room 1000000000)]).length = m.length + 2 := by simp [hl6]
    have hk7 : (m6.set m.length (.frz (.dict (reK wl))) ++ [Cell.dct (worldD ⟨ns, [l0, n0], fs, wl, []⟩ room 1000000000)])[m6.length]? = some (.dct (worldD ⟨ns, [l0, n0], fs, wl, []⟩ room 1000000000)) := by
      have : m6.length = (m6.set m.length (.frz (.dict (reK wl)))).length := (List.length_set ..).symm
      rw [this]; exact at_last
    generalize m6.set m.length (.frz (.dict (reK wl))) ++ [Cell.dct (worldD ⟨ns, [l0, n0], fs, wl, []⟩ room 1000000000)] = m7 at hx7 hm7 hl7 hk7
    rw [hl6] at hk7 ⊢
    generalize hkw : m.length + 1 = kw at hk7
    have ne : kw ≠ kf := by omega
    -- the seeds
    refine xB (x_put (k := kw) rfl ?_)
    simp only [evE_call, evL_cons, evL_nil, evE_var, evE_cst, Ct_int, Ok_bind, Ok_ok, bind_ok, List.getElem?_cons_zero, List.getElem?_cons_succ]
    refine (seeds_ok (many := 1) hT hS (by omega) hm7 (ro := 40) ⟨_, _, hk7, by omega⟩ ne ok0 (by decide) (by omega)).mono ?_
    rintro v m8 ⟨sd, rfl, hsd, hsl, hm8, fr8⟩
    have hk8 : m8[kw]? = _ := (fr8.2 kw (by simpa using ne)).trans hk7
    refine ⟨_, _, rfl, hk8, wd_len, fun m9 hk9 hl9 hf9 => ?_⟩
    rw [wd_pseeds] at hk9
    have hx8 : Ext [kf] m m8 := hx7.frm fr8 fun j hj _ => hj
    have hx9 : Ext [kf] m m9 := hx8.put hl9 hf9 (.inl (by omega))
    have hm9 : Fd (c + 400 + 10 * EB 4) m9 kf := hm8.of (hf9 kf (Ne.symm ne))
    have ok1 : WOk (fun x k => ∃ f ∈ fs, f.1 = x ∧ f.2.toNat = k) 2 ⟨ns, [l0, n0], fs, wl, sd⟩ := ⟨ok0.ns, ok0.n0, ok0.nl, ok0.ls, ok0.ll, ok0.fs, ok0.fl, ok0.wl, hsd, (by show sd.length ≤ 100; omega), by decide, by decide⟩
    -- the expression
    refine xB (x_asg ?_)
    simp only [evE_call, evL_cons, evL_nil, evE_bin, evE_lst, evE_var, evE_cst, Ct_int, Ok_bind, Ok_ok, bind_ok, List.getElem?_cons_zero, List.getElem?_cons_succ, fzL_nil, mkl_f]
    refine (draw_L (by omega) hT.draw hm9 (by decide) (by decide) (by omega)).mono ?_
    rintro v m10 ⟨q, rfl, q0, q1, hm10, fr10⟩
    simp only [rd2_d, b_add, opt_some, Ok_ok]
    obtain ⟨b, hb, hb1, hb7⟩ : ∃ b : Nat, 1 + q = (b : Int) ∧ 1 ≤ b ∧ b ≤ 7 := ⟨(1 + q).toNat, by omega, by omega, by omega⟩
    rw [hb]
    have hEB : EB b ≤ 60 * 7 ^ 7 := by
      unfold EB
      have : (7 : Int) ^ b ≤ 7 ^ 7 := by exact_mod_cast Nat.pow_le_pow_right (show 0 < 7 by decide) hb7
      omega
    have e77 : (60 * 7 ^ 7 : Int) = 49412580 := by decide
    have hNB : NB b ≤ 689087 := by
      have : ∀ b : Fin 8, NB b ≤ 689087 := by decide
      exact this ⟨b, by omega⟩
    have h10b : (1 : Int) * 10 ^ b < 10 ^ 15 := by
      have : (10 : Int) ^ b ≤ 10 ^ 7 := by exact_mod_cast Nat.pow_le_pow_right (show 0 < 10 by decide) hb7
      omega
    refine (expr_ok hT ne ok1 b (L' + 1) (by omega) (c + 400 + 10 * EB 4 + 1) m10 [] 1 40 (Nat.le_refl _) hm10 ⟨_, _, (fr10.2 kw (by simpa using ne)).trans hk9, by omega⟩ (fun _ h => by cases h) (by show 0 + b ≤ 890; omega) (by decide) h10b (by omega)).mono ?_
    rintro v m11 ⟨e, rfl, he, hce, hm11, _, fr11⟩
    have hdp := dp_two b 40 hb1
    have hx11 : Ext [kf] m m11 := (hx9.frm fr10 fun j hj _ => hj).frm fr11 fun j hj hjl => by
      simp at hj
      rcases hj with rfl | rfl
      · simp
      · omega
    have he7 : Gd anyC 7 [] e := he.mono (fun _ _ _ => True.intro) (by omega)
    simp only [List.set_cons_zero, List.set_cons_succ]
    generalize hcx : c + 400 + 10 * EB 4 + 1 + EB b = cx at hm11
    have hcx2 : cx + 100 ≤ c + 10 ^ 9 := by omega
    -- the chains around it
    refine xB (x_rng ?_)
    simp only [evE_idx, evE_call, evL_cons, evL_nil, evE_lst, evE_var, evE_cst, Ct_int, Ok_bind, Ok_ok, bind_ok, List.getElem?_cons_zero, List.getElem?_cons_succ, fzL_cons, fzL_nil, fz_d, mkl_f]
    refine (draw_L (by omega) hT.draw hm11 (by decide) (by decide) (by omega)).mono ?_
    rintro v m12 ⟨j, rfl, j0, j1, hm12, fr12⟩
    obtain ⟨z, ez, hz⟩ := atI_in (xs := [PyData.int 0, .int 0, .int 3, .int 5]) j0 j1
    obtain ⟨K, rfl, K0, K5⟩ : ∃ K : Int, z = .int K ∧ 0 ≤ K ∧ K ≤ 5 := by
      simp only [List.mem_cons, List.not_mem_nil, or_false] at hz
      rcases hz with rfl | rfl | rfl | rfl <;> exact ⟨_, rfl, by decide, by decide⟩
    simp only [rd2_d, i_list, ez, opt_some, Ok_ok]
    clear ez hz
    refine ⟨K, rfl, K0, by omega, ?_⟩
    have hx12 : Ext [kf] m m12 := hx11.frm fr12 fun j hj _ => hj
    refine forL_ok (fun i r m' => ∃ (e : PyData) (w8 w9 : Option Vl), r = [some (.r kf), some (.d (.int room)), some (.d (.list (ns.map .str))), some (.d (.list ([l0, n0].map .str))), some (.d (.list (fs.map fnD))), some (.r m.length), some (.r kw), some (.d e), w8, w9, none, none] ∧ Gd anyC (7 + i) [] e ∧ cnt e ≤ 689087 + 2 * i ∧ Fd (cx + 1 + i) m' kf ∧ Ext [kf] m m') (n := 0)
      ⟨e, none, none, rfl, he7, by omega, hm12.weak (by omega) (by omega), hx12⟩ ?_ ?_
    · rintro i x r m' ⟨i', hi, hii⟩ ⟨e, w8, w9, rfl, hge, hce, hf, hx⟩
      have e9 : i = i' := by omega
      subst e9
      obtain ⟨rfl, hiK⟩ := rngL_at hi
      show Ok (evB (callN T (L' + 1)) (.cons (.asg 9 _) _) [some (.r kf), some (.d (.int room)), some (.d (.list (ns.map .str))), some (.d (.list ([l0, n0].map .str))), some (.d (.list (fs.map fnD))), some (.r m.length), some (.r kw), some (.d e), some (.d (.int (i : Int))), w9, none, none] m') _
      have kI0 : 0 ≤ (i : Int) := by omega
      have kI5 : (i : Int) ≤ 4 := by omega
      generalize hI : (i : Int) = I at kI0 kI5 hf
      refine xB (x_asg ?_)
      simp only [evE_call, evL_cons, evL_nil, evE_var, evE_cst, Ct_int, Ok_bind, Ok_ok, bind_ok, List.getElem?_cons_zero, List.getElem?_cons_succ]
      refine (draw_L (by omega) hT.draw hf (by decide) (by decide) (by omega)).mono ?_
      rintro v m13 ⟨way, rfl, y0, y1, hm13, fr13⟩
      have hx13 : Ext [kf] m m13 := hx.frm fr13 fun j hj _ => hj
      simp only [List.set_cons_zero, List.set_cons_succ]
      -- one around it
      have one : ∀ {ww : W} {as : List PyData}, Form anyC ww as 1 → ww ≠ .let_ → ww ≠ .set_ → Gd anyC (7 + (i + 1)) [] (.tuple (.str ww.s :: (as ++ [e]))) ∧ cnt (.tuple (.str ww.s :: (as ++ [e]))) ≤ 689087 + 2 * (i + 1) := by
        intro ww as f h1 h2
        refine ⟨.mk (ks := [e]) f (fun _ h => absurd h h2) fun k a ha => ?_, ?_⟩
        · rw [inb_else h1]
          have : a = e := by simpa using List.mem_of_getElem? ha
          rw [this]; exact hge
        · rw [cnt_node (ks := [e]) f, cntL, cntL]; omega
      have els : ∀ {Qp : Fl → Mem → Prop}, (∀ z w8 w9, Gd anyC (7 + (i + 1)) [] z → cnt z ≤ 689087 + 2 * (i + 1) → Qp (.nx [some (.r kf), some (.d (.int room)), some (.d (.list (ns.map .str))), some (.d (.list ([l0, n0].map .str))), some (.d (.list (fs.map fnD))), some (.r m.length), some (.r kw), some (.d z), w8, w9, none, none]) m13) → Ok (evB (callN T (L' + 1)) (.cons (.asg 7 (.idx (.lst false (.cons (.tup (.cons (.cst (.str "say")) (.cons (.var 7) .nil))) (.cons (.tup (.cons (.cst (.str "say")) (.cons (.var 7) .nil))) (.cons (.tup (.cons (.cst (.str "again")) (.cons (.var 8) (.cons (.var 7) .nil)))) (.cons (.tup (.cons (.cst (.str "call")) (.cons (.idx (.var 2) (.cst (.int 0))) (.cons (.var 7) .nil)))) .nil))))) (.var 9))) .nil) [some (.r kf), some (.d (.int room)), some (.d (.list (ns.map .str))), some (.d (.list ([l0, n0].map .str))), some (.d (.list (fs.map fnD))), some (.r m.length), some (.r kw), some (.d e), some (.d (.int I)), some (.d (.int way)), none, none] m13) Qp := by
        intro Qp hq
        refine xB (x_asg ?_)
        simp only [evE_idx, evE_lst, evE_tup, evL_cons, evL_nil, evE_var, evE_cst, Ct_int, Ct_str, Ok_bind, Ok_ok, bind_ok, List.getElem?_cons_zero, List.getElem?_cons_succ, fzL_cons, fzL_nil, fz_d, mkl_f, rd2_d, e0, opt_some, lit_say, lit_again, lit_call]
        have ab : ∃ z, idxop (.list [PyData.tuple [.str (W.s .say_), e], .tuple [.str (W.s .say_), e], .tuple [.str (W.s .again_), .int I, e], .tuple [.str (W.s .call_), .str n0, e]]) (.int way) = some z ∧ Gd anyC (7 + (i + 1)) [] z ∧ cnt z ≤ 689087 + 2 * (i + 1) := by
          obtain ⟨z, ez, hz⟩ := atI_in (xs := [PyData.tuple [.str (W.s .say_), e], .tuple [.str (W.s .say_), e], .tuple [.str (W.s .again_), .int I, e], .tuple [.str (W.s .call_), .str n0, e]]) y0 y1
          refine ⟨z, ez, ?_⟩
          simp only [List.mem_cons, List.not_mem_nil, or_false] at hz
          rcases hz with rfl | rfl | rfl | rfl
          · exact one (ww := .say_) (as := []) .say (by decide) (by decide)
          · exact one (ww := .say_) (as := []) .say (by decide) (by decide)
          · exact one (ww := .again_) (as := [.int I]) (.again I kI0 (by omega)) (by decide) (by decide)
          · exact one (ww := .call_) (as := [.str n0]) (.call n0 1 True.intro hw0 (by decide)) (by decide) (by decide)
        obtain ⟨z, ez, hz1, hz2⟩ := ab
        rw [ez]
        simp only [opt_some, Ok_ok, List.set_cons_zero, List.set_cons_succ]
        exact x_nil (hq z _ _ hz1 hz2)
      refine xB (x_ife ?_)
      simp only [evE_and, evAnd_cons, evAnd_one, evE_cmp, evE_var, evE_cst, Ct_int, Ok_bind, Ok_ok, List.getElem?_cons_zero, List.getElem?_cons_succ, rd2_d, c_eqi, opB_some, asB_b]
      by_cases hy : way = 0
      · simp only [hy, decide_true, evAnd_one, evE_call, evL_cons, evL_nil, evE_lst, evE_idx, evE_var, evE_cst, Ct_int, Ok_bind, Ok_ok, bind_ok, List.getElem?_cons_zero, List.getElem?_cons_succ, fzL_cons, fzL_nil, fz_d, mkl_f, rd2_d, e1, opt_some]
        have e8 : [PyData.str n1] = [n1].map .str := rfl
        rw [e8]
        refine (right_L (bs := [n1]) hT (by omega) hge.tr (by show 1 + (7 + i) ≤ 1000; omega)).mono ?_
        rintro v m14 ⟨⟨b2, rfl, hg2⟩, rfl⟩
        simp only [asB_b, Ok_ok]
        refine ⟨_, rfl, fun hb2 => ?_, fun _ => by rw [hy] at els; exact els fun z w8 w9 h1 h2 => x_nil ⟨z, w8, w9, rfl, h1, h2, hm13.weak (by push_cast; omega) (by push_cast; omega), hx13⟩⟩
        refine xB (x_asg ?_)
        simp only [evE_tup, evL_cons, evL_nil, evE_idx, evE_var, evE_cst, Ct_int, Ct_str, Ok_bind, Ok_ok, bind_ok, List.getElem?_cons_zero, List.getElem?_cons_succ, fzL_cons, fzL_nil, fz_d, rd2_d, e1, opt_some, lit_let, lit_num, List.set_cons_zero, List.set_cons_succ]
        obtain ⟨p1, p2⟩ := tr_leaf (cs := anyC) (bs := []) (.num I kI0 (by omega))
        refine x_nil (x_nil ⟨_, _, _, rfl, ?_, ?_, hm13.weak (by push_cast; omega) (by push_cast; omega), hx13⟩)
        · refine .mk (n := 7 + i) (as := [.str n1]) (ks := [.tuple [.str (W.s .num_), .int I], e]) (.let n1 hw1) (fun _ h => by cases h) fun k a ha => ?_
          match k, ha with
          | 0, ha => cases ha; exact p1.mono (fun _ _ h => h) (by omega)
          | 1, ha => cases ha; exact hg2 hb2
          | k + 2, ha => simp at ha
        · have := cnt_node (cs := anyC) (w := .let_) (as := [.str n1]) (ks := [.tuple [.str (W.s .num_), .int I], e]) (.let n1 hw1)
          rw [cntL, cntL, cntL, p2] at this
          show cnt (.tuple (.str (W.s .let_) :: ([.str n1] ++ [.tuple [.str (W.s .num_), .int I], e]))) ≤ _
          rw [this]; omega
      · simp only [hy, decide_false, Ok_ok]
        exact ⟨_, rfl, (fun h => by cases h), fun _ => els fun z w8 w9 h1 h2 => x_nil ⟨z, w8, w9, rfl, h1, h2, hm13.weak (by push_cast; omega) (by push_cast; omega), hx13⟩⟩
    · rintro r m' ⟨e, w8, w9, rfl, hge, hce, hf, hx⟩
      rw [rngL_len] at hge hce hf
      refine xB (x_ret ?_)
      simp only [evE_var, Ok_ok, List.getElem?_cons_zero, List.getElem?_cons_succ, fin_d]
      exact ⟨e, rfl, hge.mono (fun _ _ h => h) (by omega), by omega, (hf.take hkf).weak (by omega) (by omega), hx.done⟩
end
end Mp
-- Ev34
set_option Elab.async false
set_option linter.all false
set_option maxRecDepth 100000
set_option maxHeartbeats 2000000
namespace Mp
open PySem L2
section
variable {F : Fs} {r : En} {m : Mem} {Q : Vl → Mem → Prop}
/-- over a list that lives, leaving the cells -/
theorem x_lcv {e : Ex} {tg : Tg} {i n : Nat} {xs : List PyData} (g : PyData → Option PyData) (hr : r[i]? = some (some (.r n))) (hn : m[n]? = some (.lst xs))
    (hb : ∀ x ∈ xs, ∀ acc, ∃ r1, bindT (wipeE r tg.slots) tg x = some r1 ∧ Ok (evE F e r1 (m ++ [.lst acc])) fun v m2 => ∃ d, v = .d d ∧ g x = some d ∧ m2 = m ++ [.lst acc]) (hq : Q (.d (.list (xs.filterMap g))) m) : Ok (evE F (.lcv e tg i) r m) Q := by
  have hlt := lt_of_at hn
  have hh : ∀ acc, (m ++ [Cell.lst acc])[n]? = some (.lst xs) := fun acc => (List.getElem?_append_left hlt).trans hn
  show Ok (match r[i]? with
    | some (some (.r n)) => match m[n]? with
      | some (.lst xs) => (lcL m.length (fun x m2 => held n xs m2 (match bindT (wipeE r tg.slots) tg x with
        | some r1 => (evE F e r1 m2).bind fun v m3 => (fz v m3).bind fun y m4 => .ok (some y) m4
        | none => .no)) 0 xs (m ++ [.lst []])).bind fun _ m2 => held n xs m2 (lcE false m.length m2)
      | _ => .no
    | _ => .no) Q
  rw [hr]
  simp only [hn]
  rw [Ok_bind]
  refine lcL_pure g (fun x hx acc => ?_) ?_
  · unfold held
    rw [if_pos (hh acc)]
    obtain ⟨r1, e1, ⟨v, m2, e2, d, rfl, e3, rfl⟩⟩ := hb x hx acc
    simp only [e1, e2, bind_ok, fz_d, e3]
  · unfold held
    rw [if_pos (hh _)]
    exact lc_end hq
/-- the store at a key that is told by a name -/
theorem x_putv {Q : Fl → Mem → Prop} {o k j : Nat} {key : Str} {e : Ex} (ho : r[o]? = some (some (.r k))) (hj : r[j]? = some (some (.d (.str key)))) (h : Ok (evE F e r m) fun v m1 => ∃ w kvs, v = .d w ∧ m1[k]? = some (.dct kvs) ∧ kvs.length < sizeLine ∧ (∀ m2, m2[k]? = some (.dct (putKK kvs (.inr key) w)) → m2.length = m1.length → (∀ j, j ≠ k → m2[j]? = m1[j]?) → Q (.nx r) m2)) : Ok (evS F (.sti (.var o) (.var j) e) r m) Q := by
  rw [evS_sti, Ok_bind]
  refine h.mono fun v m1 ⟨w, kvs, e, hk, hl, hq⟩ => ?_
  subst e
  simp only [evE_var, ho, hj, Ok_bind, Ok_ok, fz_d, hk, kOf, if_pos hl]
  exact hq _ (List.getElem?_set_self (List.getElem?_eq_some_iff.mp hk).1) (List.length_set ..) fun j hj => List.getElem?_set_ne (Ne.symm hj)
end
/-! ### programs -/
structure Fun where
  nm : Str
  ps : List Str
  bd : PyData
def Fun.d (f : Fun) : PyData := .tuple [.str f.nm, .tuple (f.ps.map .str), f.bd]
def Fun.k (f : Fun) : Str × Int := (f.nm, (f.ps.length : Int))
def csF (fs : List Fun) : Str → Nat → Prop := fun x k => ∃ f ∈ fs, f.nm = x ∧ f.ps.length = k
/-- functions in order -/
inductive Fns : List Fun → Prop
  | nil : Fns []
  | snoc {fs : List Fun} {f : Fun} : Fns fs → Nw f.nm → f.nm ∉ fs.map Fun.nm → f.ps.length ≤ 6 → f.ps.Nodup → (∀ x ∈ f.ps, Nw x) → Gd (csF fs) 4 f.ps f.bd → cnt f.bd ≤ 20000 → Fns (fs ++ [f])
theorem Fns.all {fs : List Fun} (h : Fns fs) : ∀ f ∈ fs, Nw f.nm ∧ f.ps.length ≤ 6 := by
  induction h with
  | nil => intro f h; cases h
  | snoc h h1 h2 h3 h4 h5 h6 h7 ih =>
    intro f hf
    rcases List.mem_append.mp hf with hf | hf
    · exact ih f hf
    · simp only [List.mem_cons, List.not_mem_nil, or_false] at hf
      subst hf; exact ⟨h1, h3⟩
def nmG : PyData → Option PyData
  | .tuple (x :: _) => some x
  | _ => none
theorem fm_nm : ∀ fs : List Fun, (fs.map Fun.d).filterMap nmG = (fs.map Fun.nm).map .str
  | [] => rfl
  | f :: fs => by rw [List.map_cons, List.filterMap_cons_some (f := nmG) (a := f.d) (b := .str f.nm) rfl, fm_nm fs]; rfl
def programQ (c : Int) (m : Mem) (kf : Nat) (v : Vl) (m' : Mem) : Prop := ∃ fs main, v = .d (.tuple [.tuple (fs.map Fun.d), main]) ∧ Fns fs ∧ fs.length ≤ 3 ∧ Gd (csF fs) 7 [] main ∧ cnt main ≤ 700000 ∧ Fd c m' kf ∧ Frm [kf] m m'
section
variable {T : Str → Option Fn} {L : Nat} {c : Int} {m : Mem} {kf kw : Nat}
theorem program_ok {room : Int} (hT : Has T) (hS : T "_law_seeds" = some F_law_seeds) (hW : T "_law_world!" = some F_law_world_r) (hP : T "_law_program" = some F_law_program) (hL : 40 ≤ L) (hm : Fd c m kf) (hr : room ≤ 40) (hc : c + 10 ^ 9 ≤ 2 ^ 62) :
    Ok (callN T (L + 1) "_law_program" [.r kf, .d (.int room)] m) (programQ (c + 10 ^ 9) m kf) := by
  have hE4 : EB 4 = 144060 := by decide
  have hE7 : EB 7 = 49412580 := by decide
  have hkf := hm.lt
  refine call_ok hP rfl ?_
  show Ok (evB (callN T L) F_law_program.body [some (.r kf), some (.d (.int room)), none, none, none, none, none, none, none, none, none, none, none, none, none] m) fun fl m1 => Ok (fin false m.length fl m1) _
  refine xB (x_asg ?_)
  simp only [evE_call, evL_cons, evL_nil, evE_bin, evE_var, evE_cst, Ct_int, Ok_bind, Ok_ok, bind_ok, List.getElem?_cons_zero, List.getElem?_cons_succ]
  refine (draw_L (by omega) hT.draw hm (by decide) (by decide) (by omega)).mono ?_
  rintro v m1 ⟨i, rfl, i0, i1, hm1, fr1⟩
  simp only [rd2_d, b_add, opt_some, Ok_ok]
  refine (names_L (by omega) hT hm1 (by omega) (by omega) (by omega)).mono ?_
  rintro v m2 ⟨ns, rfl, hnl, hns, hnd, hm2, fr2⟩
  have fr02 := fr1.trans fr2
  obtain ⟨n0, nt, rfl⟩ : ∃ n0 nt, ns = n0 :: nt := by
    rcases ns with _ | ⟨a, t⟩
    · simp at hnl; omega
    · exact ⟨a, t, rfl⟩
  generalize hnn : n0 :: nt = ns at hnl hns hnd
  have hw0 : Nw n0 := hns n0 (by simp [← hnn])
  have e0 : idxop (.list (ns.map .str)) (.int 0) = some (.str n0) := by rw [← hnn]; exact i_list.trans atI_0
  clear hnn
  refine xB (x_asg ?_)
  simp only [evE_lst, evL_cons, evL_nil, evE_call, evE_idx, evE_var, evE_cst, Ct_int, Ok_bind, Ok_ok, bind_ok, List.getElem?_cons_zero, List.getElem?_cons_succ, List.set_cons_zero, List.set_cons_succ]
  refine (name_L (c := c + 200) (xs := ns) (by omega) hT (hm2.weak (by omega) (by omega)) (by omega) (fun _ _ => rfl) (fun x h => (hns x h).1) (by omega)).mono ?_
  rintro v m3 ⟨l0, rfl, hl0, hl0n, hm3, fr3⟩
  have fr03 := fr02.trans fr3
  simp only [rd2_d, e0, opt_some, fzL_cons, fzL_nil, fz_d, mkl_f, Ok_bind, Ok_ok, bind_ok]
  have el : [PyData.str l0, PyData.str n0] = [l0, n0].map .str := rfl
  rw [el]
  have hlen3 : m3.length = m.length := fr03.1
  -- functions, known, works
  refine xB (x_asg ?_)
  simp only [evE_lst, evL_nil, fzL_nil, mkl_t, Ok_bind, Ok_ok, bind_ok, List.set_cons_zero, List.set_cons_succ]
  refine xB (x_asg ?_)
  simp only [evE_lst, evL_nil, fzL_nil, mkl_f, Ok_bind, Ok_ok, bind_ok, List.set_cons_zero, List.set_cons_succ]
  refine xB (x_asg ?_)
  rw [evE_dic, Ok_bind, evL_nil, Ok_ok, Ok_bind, fzL_nil, Ok_ok]
  have ed : dicOf [] [] = some [] := rfl
  have ea : (m3 ++ [Cell.lst []] ++ [Cell.dct []])[(m3 ++ [Cell.lst []]).length]? = some (.dct []) := at_last
  simp only [ed, ea, Ok_ok, List.set_cons_zero, List.set_cons_succ]
  have es : (m3 ++ [Cell.lst []] ++ [Cell.dct []]).set (m3 ++ [Cell.lst []]).length (.dct []) = m3 ++ [Cell.lst []] ++ [Cell.dct []] := by
    rw [List.set_append_right _ _ (Nat.le_refl _), Nat.sub_self]; rfl
  rw [es]
  have hx5 : Ext [kf] m (m3 ++ [Cell.lst []] ++ [Cell.dct []]) := ⟨by simp [hlen3], fun j hj hn => by
    rw [List.getElem?_append_left (by simp; omega), List.getElem?_append_left (by omega)]; exact fr03.2 j hn⟩
  have hk5 : (m3 ++ [Cell.lst []] ++ [Cell.dct []])[m.length]? = some (.lst []) := by
    rw [List.getElem?_append_left (by simp; omega), ← hlen3]; exact at_last
  have hm5 : Fd (c + 300) (m3 ++ [Cell.lst []] ++ [Cell.dct []]) kf := (hm3.of (by rw [List.getElem?_append_left (by simp; omega), List.getElem?_append_left (by omega)])).weak (by omega) (by omega)
  have hlk : (m3 ++ [Cell.lst []]).length = m.length + 1 := by simp [hlen3]
  rw [hlk] at ea ⊢
  rw [hlen3]
  generalize m3 ++ [Cell.lst []] ++ [Cell.dct []] = m5 at hx5 hk5 hm5 ea
  generalize hkF : m.length = kF at hk5 ea ⊢
  -- the loop's number of turns
  refine xB (x_rng ?_)
  simp only [evE_idx, evE_call, evL_cons, evL_nil, evE_lst, evE_var, evE_cst, Ct_int, Ok_bind, Ok_ok, bind_ok, List.getElem?_cons_zero, List.getElem?_cons_succ, fzL_cons, fzL_nil, fz_d, mkl_f]
  refine (draw_L (by omega) hT.draw hm5 (by decide) (by decide) (by omega)).mono ?_
  rintro v m6 ⟨j, rfl, j0, j1, hm6, fr6⟩
  obtain ⟨z, ez, hz⟩ := atI_in (xs := [PyData.int 1, .int 0, .int 2, .int 3]) j0 j1
  obtain ⟨K, rfl, K0, K3⟩ : ∃ K : Int, z = .int K ∧ 0 ≤ K ∧ K ≤ 3 := by
    simp only [List.mem_cons, List.not_mem_nil, or_false] at hz
    rcases hz with rfl | rfl | rfl | rfl <;> exact ⟨_, rfl, by decide, by decide⟩
  simp only [rd2_d, i_list, ez, opt_some, Ok_ok]
  clear ez hz
  refine ⟨K, rfl, K0, by omega, ?_⟩
  have hx6 : Ext [kf] m m6 := hx5.frm fr6 fun j hj _ => hj
  have hp2 : 2 ≤ ns.length ∧ ns.length ≤ 5 := by omega
  have hpl : (ns ++ [l0]).length = ns.length + 1 := by simp
  have hpn : ∀ x ∈ ns ++ [l0], Nw x := low_add hns fun x hx => (List.mem_singleton.mp hx) ▸ hl0
  have hpd : (ns ++ [l0]).Nodup := by
    rw [List.nodup_append]
    refine ⟨hnd, by simp, fun a ha b hb => ?_⟩
    have e : b = l0 := by simpa using hb
    rw [e]
    rintro rfl
    exact hl0n ha
  have elp : ns.map PyData.str ++ cutL ([l0, n0].map PyData.str) none (some 1) = (ns ++ [l0]).map .str := by
    have : cutL ([l0, n0].map PyData.str) none (some 1) = [PyData.str l0] := cutL_take (j := 1)
    rw [this]; simp
  -- the functions' names
  have nmsE : ∀ (r : En) (m' : Mem) (fs : List Fun) (Q : Vl → Mem → Prop), r[4]? = some (some (.r kF)) → r.length = 15 → m'[kF]? = some (.lst (fs.map Fun.d)) → Q (.d (.list ((fs.map Fun.nm).map .str))) m' → Ok (evE (callN T L) (.lcv (.idx (.var 14) (.cst (.int 0))) (.v 14) 4) r m') Q := by
    intro r m' fs Q h4 hrl hk hq
    refine x_lcv nmG h4 hk (fun x hx acc => ⟨_, rfl, ?_⟩) (by rw [fm_nm]; exact hq)
    obtain ⟨f, hf, rfl⟩ := List.mem_map.mp hx
    have g : ((wipeE r [14]).set 14 (some (Vl.d f.d)))[14]? = some (some (.d f.d)) := by
      rw [List.getElem?_set_self]
      show 14 < (r.set 14 none).length
      rw [List.length_set]; omega
    show Ok (evE (callN T L) (.idx (.var 14) (.cst (.int 0))) ((wipeE r [14]).set 14 (some (Vl.d f.d))) _) _
    simp only [evE_idx, evE_var, evE_cst, Ct_int, Ok_bind, Ok_ok, g, rd2_d]
    show Ok (opt (idxop (.tuple [.str f.nm, .tuple (f.ps.map .str), f.bd]) (.int 0)) _) _
    rw [i_tup, atI_0, opt_some, Ok_ok]
    exact ⟨_, rfl, rfl, rfl⟩
  refine forL_ok (fun i r m' => i ≤ 3 ∧ ∃ (fs : List Fun) (wl : List (Key × PyData)) (wk : Nat) (w7 w8 w9 w10 w11 w12 w13 w14 : Option Vl), r = [some (.r kf), some (.d (.int room)), some (.d (.list (ns.map .str))), some (.d (.list ([l0, n0].map .str))), some (.r kF), some (.d (.list ((fs.map Fun.k).map fnD))), some (.r wk), w7, w8, w9, w10, w11, w12, w13, w14] ∧
      m'[kF]? = some (.lst (fs.map Fun.d)) ∧ m'[wk]? = some (.dct wl) ∧ wk ≠ kF ∧ m.length ≤ wk ∧ Ints wl ∧ (∀ f ∈ fs, hasK wl (.inr f.nm) = true) ∧ wl.length ≤ i ∧ Fns fs ∧ fs.length = i ∧ Fd (c + 400 + i * 150000) m' kf ∧ Ext [kf] m m') (n := 0)
    ⟨by omega, [], [], kF + 1, none, none, none, none, none, none, none, none, rfl, (fr6.2 kF (by simp; omega)).trans hk5, (fr6.2 _ (by simp; omega)).trans ea, by omega, by omega, (fun _ h => by cases h), (fun _ h => by cases h), Nat.le_refl _, .nil, rfl, hm6.weak (by omega) (by omega), hx6⟩ ?_ ?_
  · rintro i x r m' ⟨i', hi, hii⟩ ⟨hi3, fs, wl, wk, w7, w8, w9, w10, w11, w12, w13, w14, rfl, hF, hWk, nWF, hwm, hint, hhas, hwlen, hfns, hfl, hf, hx⟩
    have e9 : i = i' := by omega
    subst e9
    obtain ⟨rfl, hiK⟩ := rngL_at hi
    have hi2 : i ≤ 2 := by omega
    show Ok (evB (callN T L) (.cons (.asg 9 _) _) [some (.r kf), some (.d (.int room)), some (.d (.list (ns.map .str))), some (.d (.list ([l0, n0].map .str))), some (.r kF), some (.d (.list ((fs.map Fun.k).map fnD))), some (.r wk), some (.d (.int (i : Int))), w8, w9, w10, w11, w12, w13, w14] m') _
    have hkF := lt_of_at hF
    have hkW := lt_of_at hWk
    have hkf' := hf.lt
    have kfF : kf ≠ kF := by omega
    have kfW : kf ≠ wk := by omega
    generalize hI : (i : Int) = I at hf
    refine xB (x_asg ?_)
    rw [evE_call, Ok_bind, evL_cons, Ok_bind, evE_var]
    show Ok (R.ok (Vl.r kf) m') _
    rw [Ok_ok, Ok_bind, evL_cons, Ok_bind]
    refine nmsE _ m' fs _ rfl rfl hF ?_
    simp only [evL_nil, Ok_bind, Ok_ok, bind_ok]
    refine (name_L (c := c + 400 + I * 150000) (xs := fs.map Fun.nm) (by omega) hT hf (by omega) (fun _ _ => rfl) (fun x hx => by obtain ⟨f, hf, rfl⟩ := List.mem_map.mp hx; exact (hfns.all f hf).1.1) (by simp; omega)).mono ?_
    rintro v m7 ⟨nm, rfl, hnm, hnew, hm7, fr7⟩
    simp only [List.set_cons_zero, List.set_cons_succ]
    refine xB (x_asg ?_)
    simp only [evE_bin, evE_slt, evE_var, evE_cst, Ct_int, Ok_bind, Ok_ok, List.getElem?_cons_zero, List.getElem?_cons_succ, rd_d, rd2_d, sl_list, opt_some]
    rw [b_addl (small (by have h1 : (cutL ([l0, n0].map PyData.str) none (some 1)).length ≤ 2 := cutL_length ([l0, n0].map PyData.str) none (some 1); rw [List.length_map]; omega)), elp]
    simp only [opt_some, Ok_ok, List.set_cons_zero, List.set_cons_succ]
    generalize hpo : ns ++ [l0] = po at hpl hpn hpd
    have fr7' := fr7
    -- with some name
    have rest : ∀ (nm : Str) (m8 : Mem), Nw nm → nm ∉ fs.map Fun.nm → Fd (c + 400 + I * 150000 + 20) m8 kf → Frm [kf] m' m8 → Ok (evB (callN T L) ((match F_law_program.body.tl 5 with | .cons (.forr _ _ b) _ => b | b => b).tl 3) [some (.r kf), some (.d (.int room)), some (.d (.list (ns.map .str))), some (.d (.list ([l0, n0].map .str))), some (.r kF), some (.d (.list ((fs.map Fun.k).map fnD))), some (.r wk), some (.d (.int I)), w8, some (.d (.str nm)), some (.d (.list (po.map .str))), w11, w12, w13, w14] m8) fun fl m1 => match fl with
        | .nx r1 => i + 1 ≤ 3 ∧ ∃ (fs : List Fun) (wl : List (Key × PyData)) (wk : Nat) (w7 w8 w9 w10 w11 w12 w13 w14 : Option Vl), r1 = [some (.r kf), some (.d (.int room)), some (.d (.list (ns.map .str))), some (.d (.list ([l0, n0].map .str))), some (.r kF), some (.d (.list ((fs.map Fun.k).map fnD))), some (.r wk), w7, w8, w9, w10, w11, w12, w13, w14] ∧
      m1[kF]? = some (.lst (fs.map Fun.d)) ∧ m1[wk]? = some (.dct wl) ∧ wk ≠ kF ∧ m.length ≤ wk ∧ Ints wl ∧ (∀ f ∈ fs, hasK wl (.inr f.nm) = true) ∧ wl.length ≤ i + 1 ∧ Fns fs ∧ fs.length = i + 1 ∧ Fd (c + 400 + ((i + 1 : Nat) : Int) * 150000) m1 kf ∧ Ext [kf] m m1
        | .rt v => Ok (fin false kF (.rt v) m1) (programQ (c + 10 ^ 9) m kf) := by
      intro nm m8 hnm hnew hm8 fr8
      have hF8 := (fr8.2 kF (by simpa using Ne.symm kfF)).trans hF
      have hW8 := (fr8.2 wk (by simpa using Ne.symm kfW)).trans hWk
      have hl8 := fr8.1
      have hx8 : Ext [kf] m m8 := hx.frm fr8 fun j hj _ => hj
      -- the params
      refine xB (x_asg ?_)
      simp only [evE_call, evL_cons, evL_nil, evE_blt, evE_var, Ok_bind, Ok_ok, bind_ok, List.getElem?_cons_zero, List.getElem?_cons_succ, rd_d, bl_lenl, outM_val]
      refine (draw_L (by omega) hT.draw hm8 (by simp; omega) (by simp; omega) (by omega)).mono ?_
      rintro v m9 ⟨at_, rfl, a0, a1, hm9, fr9⟩
      simp only [List.set_cons_zero, List.set_cons_succ]
      obtain ⟨a, rfl⟩ : ∃ a : Nat, at_ = (a : Int) := ⟨at_.toNat, by omega⟩
      refine xB (x_asg ?_)
      have erot : cutL (po.map PyData.str) (some (a : Int)) none ++ cutL (po.map PyData.str) none (some (a : Int)) = (po.drop a ++ po.take a).map .str := by
        rw [cutL_drop, cutL_take, List.map_append, List.map_drop, List.map_take]
      have hrl : (po.drop a ++ po.take a).length = po.length := by rw [List.length_append, List.length_drop, List.length_take]; omega
      have hrn : ∀ x ∈ po.drop a ++ po.take a, Nw x := fun x hx => (List.mem_append.mp hx).elim (fun z => hpn x (List.mem_of_mem_drop z)) fun z => hpn x (List.mem_of_mem_take z)
      have hrd : (po.drop a ++ po.take a).Nodup := by
        have := hpd
        rw [← List.take_append_drop a po] at this
        exact (List.perm_append_comm.nodup_iff).mp this
      have hbound : (cutL (po.map PyData.str) (some (a : Int)) none).length + (cutL (po.map PyData.str) none (some (a : Int))).length ≤ sizeLine := by
        rw [← List.length_append, erot, List.length_map, hrl]
        exact small (by omega)
      simp only [evE_bin, evE_slt, evE_slf, evE_idx, evE_lst, evE_call, evL_cons, evL_nil, evE_var, evE_cst, Ct_int, Ok_bind, Ok_ok, bind_ok, List.getElem?_cons_zero, List.getElem?_cons_succ, rd_d, rd2_d, sl_list, opt_some, b_addl hbound, erot, fzL_cons, fzL_nil, fz_d, mkl_f]
      generalize po.drop a ++ po.take a = ro at hrl hrn hrd
      refine (draw_L (by omega) hT.draw hm9 (by decide) (by decide) (by omega)).mono ?_
      rintro v m10 ⟨q, rfl, q0, q1, hm10, fr10⟩
      obtain ⟨z, ez, hz⟩ := atI_in (xs := [PyData.int 1, .int 2, .int 0, .int 3, .int 1, .int 2, .int 2, .int 6]) q0 q1
      obtain ⟨q, rfl, q6⟩ : ∃ q : Nat, z = .int (q : Int) ∧ q ≤ 6 := by
        simp only [List.mem_cons, List.not_mem_nil, or_false] at hz
        rcases hz with rfl | rfl | rfl | rfl | rfl | rfl | rfl | rfl
        · exact ⟨1, rfl, by decide⟩
        · exact ⟨2, rfl, by decide⟩
        · exact ⟨0, rfl, by decide⟩
        · exact ⟨3, rfl, by decide⟩
        · exact ⟨1, rfl, by decide⟩
        · exact ⟨2, rfl, by decide⟩
        · exact ⟨2, rfl, by decide⟩
        · exact ⟨6, rfl, by decide⟩
      simp only [rd2_d, i_list, ez, opt_some, Ok_ok, rd_d, sl_list, List.set_cons_zero, List.set_cons_succ]
      clear ez hz
      have ept : cutL (ro.map PyData.str) none (some (q : Int)) = (ro.take q).map .str := by rw [cutL_take, List.map_take]
      rw [ept]
      have hqn : ∀ x ∈ ro.take q, Nw x := fun x hx => hrn x (List.mem_of_mem_take hx)
      have hqd : (ro.take q).Nodup := hrd.sublist (List.take_sublist ..)
      have hql : (ro.take q).length ≤ 6 := by rw [List.length_take]; omega
      generalize ro.take q = ps at hqn hqd hql
      have fr810 := fr9.trans fr10
      have hF10 := (fr810.2 kF (by simpa using Ne.symm kfF)).trans hF8
      have hW10 := (fr810.2 wk (by simpa using Ne.symm kfW)).trans hW8
      have hx10 : Ext [kf] m m10 := hx8.frm fr810 fun j hj _ => hj
      have hl10 : m10.length = m'.length := by rw [fr810.1, hl8]
      -- the world
      refine xB (x_asg ?_)
      simp only [evE_call, evL_cons, evL_nil, evE_var, evE_cst, Ct_int, Ok_bind, Ok_ok, bind_ok, List.getElem?_cons_zero, List.getElem?_cons_succ]
      obtain ⟨L', rfl⟩ : ∃ L', L = L' + 1 := ⟨L - 1, by omega⟩
      refine world_ok hW hW10 ?_
      simp only [List.set_cons_zero, List.set_cons_succ]
      have ok0 : WOk (csF fs) 1 ⟨ns, [l0, n0], fs.map Fun.k, wl, []⟩ := ⟨hns, (by intro h; have h : ns = [] := h; rw [h] at hp2; simp at hp2), by show ns.length ≤ 100; omega, (fun x hx => by
        rcases List.mem_cons.mp hx with rfl | hx
        · exact hl0
        · exact (List.mem_singleton.mp hx) ▸ hw0), (by show 2 ≤ 100; decide), (fun f hf => by
          obtain ⟨g, hg, rfl⟩ := List.mem_map.mp hf
          have := hfns.all g hg
          refine ⟨⟨g, hg, rfl, ?_⟩, this.1, ?_, ?_⟩
          · show g.ps.length = ((g.ps.length : Int)).toNat; omega
          · show (0 : Int) ≤ (g.ps.length : Int); omega
          · show (g.ps.length : Int) ≤ 6; omega), (by show (fs.map Fun.k).length ≤ 100; rw [List.length_map]; omega), (fun x k ⟨f, hf, e, _⟩ => e ▸ look_has hint (hhas f hf)), (fun _ h => by cases h), Nat.zero_le _, Nat.le_refl _, by decide⟩
      generalize hWW : worldD ⟨ns, [l0, n0], fs.map Fun.k, wl, []⟩ 9 120 = WW
      have hm11 : Fd (c + 400 + I * 150000 + 30) (m10.set wk (.frz (.dict (reK wl))) ++ [Cell.dct WW]) kf := ((hm10.of (List.getElem?_set_ne (Ne.symm kfW))).of (List.getElem?_append_left (by rw [List.length_set]; omega))).weak (by omega) (by omega)
      have hF11 : (m10.set wk (.frz (.dict (reK wl))) ++ [Cell.dct WW])[kF]? = some (.lst (fs.map Fun.d)) := by
        rw [List.getElem?_append_left (by rw [List.length_set]; omega), List.getElem?_set_ne nWF]; exact hF10
      have hW11 : (m10.set wk (.frz (.dict (reK wl))) ++ [Cell.dct WW])[wk]? = some (.frz (.dict (reK wl))) := by
        rw [List.getElem?_append_left (by rw [List.length_set]; omega)]; exact List.getElem?_set_self (by omega)
      have hk11 : (m10.set wk (.frz (.dict (reK wl))) ++ [Cell.dct WW])[m10.length]? = some (.dct WW) := by
        have : m10.length = (m10.set wk (.frz (.dict (reK wl)))).length := (List.length_set ..).symm
        rw [this]; exact at_last
      have hx11 : Ext [kf] m (m10.set wk (.frz (.dict (reK wl))) ++ [Cell.dct WW]) := (hx10.set (.inl hwm)).app
      have hl11 : (m10.set wk (.frz (.dict (reK wl))) ++ [Cell.dct WW]).length = m10.length + 1 := by simp
      generalize m10.set wk (.frz (.dict (reK wl))) ++ [Cell.dct WW] = m11 at hm11 hF11 hW11 hk11 hx11 hl11
      generalize hkw : m10.length = kw at hk11 hl11
      subst hWW
      have ne : kw ≠ kf := by omega
      -- the body
      refine xB (x_asg ?_)
      simp only [evE_call, evL_cons, evL_nil, evE_var, evE_cst, Ct_int, Ok_bind, Ok_ok, bind_ok, List.getElem?_cons_zero, List.getElem?_cons_succ]
      refine (expr_ok hT ne ok0 4 (L' + 1) (by omega) (c + 400 + I * 150000 + 30) m11 ps 1 9 (by decide) hm11 ⟨_, _, hk11, by decide⟩ hqn (by omega) (by decide) (by decide) (by omega)).mono ?_
      rintro v m12 ⟨e, rfl, he, hce, hm12, _, fr12⟩
      simp only [List.set_cons_zero, List.set_cons_succ]
      have he4 : Gd (csF fs) 4 ps e := he.mono (fun _ _ h => h) (by decide)
      have hce2 : cnt e ≤ 20000 := Nat.le_trans hce (by decide)
      have hF12 := (fr12.2 kF (by simp; omega)).trans hF11
      have hW12 := (fr12.2 wk (by simp; omega)).trans hW11
      have hx12 : Ext [kf] m m12 := hx11.frm fr12 fun j hj hjl => by
        simp at hj
        rcases hj with rfl | rfl
        · simp
        · omega
      have hl12 : m12.length = m11.length := fr12.1
      -- the function
      refine xB (x_app (k := kF) rfl hF12 ?_)
      simp only [evE_tup, evL_cons, evL_nil, evE_blt, evE_var, Ok_bind, Ok_ok, bind_ok, List.getElem?_cons_zero, List.getElem?_cons_succ, rd_d, bl_tupl, outM_val, fzL_cons, fzL_nil, fz_d]
      refine ⟨_, _, rfl, hF12, by have : sizeLine = 16777216 := rfl; rw [List.length_map]; omega, fun m13 hk13 hl13 ho13 => ?_⟩
      have ef : fs.map Fun.d ++ [PyData.tuple [.str nm, .tuple (ps.map .str), e]] = (fs ++ [Fun.mk nm ps e]).map Fun.d := by simp [Fun.d]
      rw [ef] at hk13
      have hx13 : Ext [kf] m m13 := hx12.put hl13 ho13 (.inl (by omega))
      have hm13 : Fd (c + 400 + I * 150000 + 30 + EB 4) m13 kf := hm12.of (ho13 kf kfF)
      have hW13 := (ho13 wk nWF).trans hW12
      refine xB (x_asg ?_)
      have ek : (fs.map Fun.k).map fnD ++ [PyData.tuple [.str nm, .int ((ps.map PyData.str).length : Int)]] = ((fs ++ [Fun.mk nm ps e]).map Fun.k).map fnD := by simp [Fun.k, fnD]
      have b7 : ((fs.map Fun.k).map fnD).length + [PyData.tuple [.str nm, .int ((ps.map PyData.str).length : Int)]].length ≤ sizeLine := small (by simp; omega)
      simp only [evE_bin, evE_lst, evE_tup, evL_cons, evL_nil, evE_blt, evE_var, Ok_bind, Ok_ok, bind_ok, List.getElem?_cons_zero, List.getElem?_cons_succ, rd_d, rd2_d, bl_lenl, outM_val, fzL_cons, fzL_nil, fz_d, mkl_f, b_addl b7, ek, opt_some, List.set_cons_zero, List.set_cons_succ]
      -- the works
      refine xB (x_asg ?_)
      have rW : rd m13 (.r wk) = some (.dict (reK wl)) := by simp [rd, hW13]
      simp only [evE_blt, evE_var, Ok_bind, Ok_ok, List.getElem?_cons_zero, List.getElem?_cons_succ, rW, bl_dict, outM_dct, List.set_cons_zero, List.set_cons_succ]
      have hF14 : (m13 ++ [Cell.dct wl])[kF]? = some (.lst ((fs ++ [Fun.mk nm ps e]).map Fun.d)) := (List.getElem?_append_left (by omega)).trans hk13
      have hW14 : (m13 ++ [Cell.dct wl])[m13.length]? = some (.dct wl) := at_last
      have hx14 : Ext [kf] m (m13 ++ [Cell.dct wl]) := hx13.app
      have hm14 : Fd (c + 400 + I * 150000 + 30 + EB 4) (m13 ++ [Cell.dct wl]) kf := hm13.of (List.getElem?_append_left (by omega))
      have hwk : ∀ ext, rd ((m13 ++ [Cell.dct wl]) ++ ext) (.r m13.length) = some (.dict (reK wl)) := fun ext => by
        have : ((m13 ++ [Cell.dct wl]) ++ ext)[m13.length]? = some (.dct wl) := (List.getElem?_append_left (by simp)).trans at_last
        exact rd_at this
      have hl14 : m13.length = m11.length := by rw [hl13, hl12]
      generalize m13 ++ [Cell.dct wl] = m14 at hF14 hW14 hx14 hm14 hwk
      refine xB (x_putv (k := m13.length) (key := nm) rfl rfl ?_)
      simp only [evE_call, evL_cons, evL_nil, evE_var, Ok_bind, Ok_ok, bind_ok, List.getElem?_cons_zero, List.getElem?_cons_succ]
      refine (work_L hT (by omega) ok0.wl he4.tr hwk).mono ?_
      rintro v m15 ⟨⟨wi, rfl⟩, rfl⟩
      refine ⟨_, _, rfl, hW14, by have : sizeLine = 16777216 := rfl; omega, fun m16 hk16 hl16 ho16 => ?_⟩
      refine x_nil ⟨by omega, fs ++ [Fun.mk nm ps e], _, m13.length, _, _, _, _, _, _, _, _, rfl, (ho16 kF (by omega)).trans hF14, hk16, by omega, by omega, put_ints hint, fun f hf => ?_, by have := put_len (l := wl) (k := .inr nm) (v := .int wi); omega, .snoc hfns hnm hnew hql hqd hqn he4 hce2, by simp [hfl], ?_, hx14.put hl16 ho16 (.inl (by omega))⟩
      · rcases List.mem_append.mp hf with hf | hf
        · exact put_has (.inl (hhas f hf))
        · exact put_has (.inr (by rw [List.mem_singleton.mp hf]))
      · exact (hm14.of (ho16 kf (by omega))).weak (by push_cast; omega) (by push_cast; omega)
    refine xB (x_ife ?_)
    simp only [evE_and, evAnd_cons, evE_cmp, evE_call, evL_cons, evL_nil, evE_var, evE_cst, Ct_int, Ok_bind, Ok_ok, bind_ok, List.getElem?_cons_zero, List.getElem?_cons_succ]
    refine (draw_L (by omega) hT.draw hm7 (by decide) (by decide) (by omega)).mono ?_
    rintro v m8 ⟨q, rfl, q0, q1, hm8, fr8⟩
    have fr78 := fr7.trans fr8
    have hF8 := (fr78.2 kF (by simpa using Ne.symm kfF)).trans hF
    simp only [rd2_d, c_eqi, opB_some, asB_b, Ok_ok]
    by_cases hq : q = 0
    · obtain ⟨z, ez, hzm⟩ := atI_in (xs := po.map PyData.str) (i := I) (by omega) (by rw [List.length_map]; omega)
      obtain ⟨y, hy, rfl⟩ := List.mem_map.mp hzm
      simp only [hq, decide_true, evAnd_one]
      rw [evE_cmp, Ok_bind, Ok_bind, evE_idx, Ok_bind]
      simp only [evE_var, Ok_bind, Ok_ok, List.getElem?_cons_zero, List.getElem?_cons_succ, rd2_d, i_list, ez, opt_some]
      refine nmsE _ m8 fs _ rfl rfl hF8 ?_
      simp only [rd2_d, nin_strs, opB_some, asB_b, Ok_ok]
      refine ⟨_, rfl, fun h => ?_, fun h => x_nil (rest nm m8 hnm hnew (hm8.weak (by omega) (by omega)) fr78)⟩
      refine xB (x_asg ?_)
      simp only [evE_idx, evE_var, Ok_bind, Ok_ok, List.getElem?_cons_zero, List.getElem?_cons_succ, rd2_d, i_list, ez, opt_some, List.set_cons_zero, List.set_cons_succ]
      exact x_nil (rest y m8 (hpn y hy) (by simpa using h) (hm8.weak (by omega) (by omega)) fr78)
    · simp only [hq, decide_false, Ok_ok]
      exact ⟨_, rfl, (fun h => by cases h), fun _ => x_nil (rest nm m8 hnm hnew (hm8.weak (by omega) (by omega)) fr78)⟩
  · rintro r m' ⟨hi3, fs, wl, wk, w7, w8, w9, w10, w11, w12, w13, w14, rfl, hF, hWk, nWF, hwm, hint, hhas, hwlen, hfns, hfl, hf, hx⟩
    subst hkF
    have hkF := lt_of_at hF
    have hkW := lt_of_at hWk
    have hkf' := hf.lt
    have kfF : kf ≠ m.length := by omega
    have kfW : kf ≠ wk := by omega
    rw [Nat.zero_add] at hi3 hfl hf
    generalize hN : (rngL 0 K).length = N at hi3 hfl hf
    refine xB (x_asg ?_)
    simp only [evE_call, evL_cons, evL_nil, evE_var, evE_cst, Ct_int, Ok_bind, Ok_ok, bind_ok, List.getElem?_cons_zero, List.getElem?_cons_succ]
    obtain ⟨L', rfl⟩ : ∃ L', L = L' + 1 := ⟨L - 1, by omega⟩
    refine world_ok hW hWk ?_
    simp only [List.set_cons_zero, List.set_cons_succ]
    have ok0 : WOk (csF fs) 1 ⟨ns, [l0, n0], fs.map Fun.k, wl, []⟩ := ⟨hns, (by intro h; have h : ns = [] := h; rw [h] at hp2; simp at hp2), by show ns.length ≤ 100; omega, (fun x hx => by
      rcases List.mem_cons.mp hx with rfl | hx
      · exact hl0
      · exact (List.mem_singleton.mp hx) ▸ hw0), (by show 2 ≤ 100; decide), (fun f hf => by
        obtain ⟨g, hg, rfl⟩ := List.mem_map.mp hf
        have := hfns.all g hg
        refine ⟨⟨g, hg, rfl, ?_⟩, this.1, ?_, ?_⟩
        · show g.ps.length = ((g.ps.length : Int)).toNat; omega
        · show (0 : Int) ≤ (g.ps.length : Int); omega
        · show (g.ps.length : Int) ≤ 6; omega), (by show (fs.map Fun.k).length ≤ 100; rw [List.length_map]; omega), (fun x k ⟨f, hf, e, _⟩ => e ▸ look_has hint (hhas f hf)), (fun _ h => by cases h), Nat.zero_le _, Nat.le_refl _, by decide⟩
    generalize hWW : worldD ⟨ns, [l0, n0], fs.map Fun.k, wl, []⟩ room 1400 = WW
    have hm11 : Fd (c + 500000) (m'.set wk (.frz (.dict (reK wl))) ++ [Cell.dct WW]) kf := ((hf.of (List.getElem?_set_ne (Ne.symm kfW))).of (List.getElem?_append_left (by rw [List.length_set]; omega))).weak (by omega) (by omega)
    have hF11 : (m'.set wk (.frz (.dict (reK wl))) ++ [Cell.dct WW])[m.length]? = some (.lst (fs.map Fun.d)) := by
      rw [List.getElem?_append_left (by rw [List.length_set]; omega), List.getElem?_set_ne nWF]; exact hF
    have hk11 : (m'.set wk (.frz (.dict (reK wl))) ++ [Cell.dct WW])[m'.length]? = some (.dct WW) := by
      have : m'.length = (m'.set wk (.frz (.dict (reK wl)))).length := (List.length_set ..).symm
      rw [this]; exact at_last
    have hx11 : Ext [kf] m (m'.set wk (.frz (.dict (reK wl))) ++ [Cell.dct WW]) := (hx.set (.inl (by omega))).app
    have hl11 : (m'.set wk (.frz (.dict (reK wl))) ++ [Cell.dct WW]).length = m'.length + 1 := by simp
    generalize m'.set wk (.frz (.dict (reK wl))) ++ [Cell.dct WW] = m11 at hm11 hF11 hk11 hx11 hl11
    generalize hkw : m'.length = kw at hk11 hl11
    subst hWW
    have ne : kw ≠ kf := by omega
    -- the seeds
    refine xB (x_put (k := kw) rfl ?_)
    simp only [evE_call, evL_cons, evL_nil, evE_bin, evE_var, evE_cst, Ct_int, Ok_bind, Ok_ok, bind_ok, List.getElem?_cons_zero, List.getElem?_cons_succ]
    refine (draw_L (by omega) hT.draw hm11 (by decide) (by decide) (by omega)).mono ?_
    rintro v m12 ⟨q, rfl, q0, q1, hm12, fr12⟩
    simp only [rd2_d, b_add, opt_some, Ok_ok]
    obtain ⟨s, hs, hs2⟩ : ∃ s : Nat, 1 + q = (s : Int) ∧ s ≤ 2 := ⟨(1 + q).toNat, by omega, by omega⟩
    rw [hs]
    have hk12 := (fr12.2 kw (by simpa using ne)).trans hk11
    refine (seeds_ok hT hS (by omega) hm12 (ro := 40) ⟨_, _, hk12, by omega⟩ ne ok0 (by omega) (by omega)).mono ?_
    rintro v m13 ⟨sd, rfl, hsd, hsl, hm13, fr13⟩
    have hk13 := (fr13.2 kw (by simpa using ne)).trans hk12
    refine ⟨_, _, rfl, hk13, wd_len, fun m14 hk14 hl14 hf14 => ?_⟩
    rw [wd_pseeds] at hk14
    have fr1113 := fr12.trans fr13
    have hF14 := (hf14 m.length (by omega)).trans ((fr1113.2 m.length (by simp; omega)).trans hF11)
    have hx14 : Ext [kf] m m14 := (hx11.frm fr1113 fun j hj _ => hj).put hl14 hf14 (.inl (by omega))
    have hm14 : Fd (c + 500000 + 1 + 10 * EB 4) m14 kf := hm13.of (hf14 kf (Ne.symm ne))
    have ok1 : WOk (csF fs) 2 ⟨ns, [l0, n0], fs.map Fun.k, wl, sd⟩ := ⟨ok0.ns, ok0.n0, ok0.nl, ok0.ls, ok0.ll, ok0.fs, ok0.fl, ok0.wl, hsd, (by show sd.length ≤ 100; omega), by decide, by decide⟩
    refine xB (x_ret ?_)
    simp only [evE_tup, evL_cons, evL_nil, evE_blt, evE_call, evE_lst, evE_var, evE_cst, Ct_int, Ok_bind, Ok_ok, bind_ok, List.getElem?_cons_zero, List.getElem?_cons_succ, fzL_nil, mkl_f, rd_lst hF14, bl_tupl, outM_val]
    refine (expr_ok hT ne ok1 7 (L' + 1) (by omega) (c + 500000 + 1 + 10 * EB 4) m14 [] 1 40 (Nat.le_refl _) hm14 ⟨_, _, hk14, by omega⟩ (fun _ h => by cases h) (by decide) (by decide) (by decide) (by omega)).mono ?_
    rintro v m15 ⟨e, rfl, he, hce, hm15, _, fr15⟩
    have hx15 : Ext [kf] m m15 := hx14.frm fr15 fun j hj hjl => by
      simp at hj
      rcases hj with rfl | rfl
      · simp
      · omega
    simp only [fzL_cons, fzL_nil, fz_d, bind_ok, Ok_bind, Ok_ok, fin_d]
    exact ⟨fs, e, rfl, hfns, by omega, he.mono (fun _ _ h => h) (dp_two 7 40 (by decide)), Nat.le_trans hce (by decide), (hm15.take hkf).weak (by omega) (by omega), hx15.done⟩
end
end Mp
-- Ev35
set_option Elab.async false
set_option linter.all false
set_option maxRecDepth 100000
set_option maxHeartbeats 2000000
namespace Mp
open PySem L2
def fline (p : Fun × List Str) : List Str := [p.1.nm] ++ p.1.ps ++ [(":" : Str)] ++ p.2
def ftext (p : Fun × List Str) : Str := Str.join " " (fline p)
theorem map_str_inj : ∀ {xs ys : List Str}, xs.map PyData.str = ys.map PyData.str → xs = ys
  | [], [], _ => rfl
  | [], _ :: _, h => by cases h
  | _ :: _, [], h => by cases h
  | x :: xs, y :: ys, h => by
    rw [List.map_cons, List.map_cons] at h
    injection h with h1 h2
    injection h1 with h1
    rw [h1, map_str_inj h2]
theorem one_len : ((" " : Str)).length = 1 ∧ ((":" : Str)).length = 1 ∧ PyData.strOk " " = true ∧ PyData.strOk ":" = true := by decide +kernel
theorem text_len {e : PyData} {ws : List Str} (h : Wrd e ws) (hc : cnt e ≤ 700000) : (ws.map Str.length).sum + ws.length * ((" " : Str)).length ≤ 14000000 := by
  have h1 := h.ln
  have h2 := h.sz
  have e1 : (ws.map Str.length).sum = (ws.map (·.length)).sum := rfl
  rw [one_len.1, e1]
  omega
theorem strOk_add {a b : Str} (ha : PyData.strOk a = true) (hb : PyData.strOk b = true) : PyData.strOk (a ++ b) = true := by
  unfold PyData.strOk at ha hb ⊢
  rw [Array.all_eq_true'] at ha hb ⊢
  have e : (a ++ b).cps.toList = a.cps.toList ++ b.cps.toList := by
    rw [stL_of a, stL_of b, stL_add]; simp [stL]
  intro c hc
  have hc : c ∈ (a ++ b).cps.toList := by simpa using hc
  rw [e] at hc
  rcases List.mem_append.mp hc with hc | hc
  · exact ha c (by simpa using hc)
  · exact hb c (by simpa using hc)
theorem strOk_join {s : Str} (hs : PyData.strOk s = true) : ∀ {xs : List Str}, (∀ x ∈ xs, PyData.strOk x = true) → PyData.strOk (Str.join s xs) = true
  | [], _ => by rw [Str.join]; decide +kernel
  | [x], h => h x List.mem_cons_self
  | x :: y :: xs, h => by
    rw [join_cons (by simp)]
    exact strOk_add (h x List.mem_cons_self) (strOk_add hs (strOk_join hs fun z hz => h z (List.mem_cons_of_mem _ hz)))
/-- what is told of a function's text -/
structure FTold (T : Str → Option Fn) (n : Nat) (p : Fun × List Str) : Prop where
  t : Told T n p.1.bd p.2
  c : cnt p.1.bd ≤ 20000
  l : p.1.ps.length ≤ 6
  n : Nw p.1.nm
  a : ∀ x ∈ p.1.ps, Nw x
theorem FTold.len {T : Str → Option Fn} {n : Nat} {p : Fun × List Str} (h : FTold T n p) : ((fline p).map Str.length).sum + (fline p).length * ((" " : Str)).length ≤ 1000000 ∧ (fline p).length ≤ 100000 ∧ (([p.1.nm] ++ p.1.ps).map Str.length).sum ≤ 100 := by
  have h1 := h.t.wd.ln
  have h2 := h.t.wd.sz
  have hc := h.c
  have hl := h.l
  have hn := h.n.1.2.2
  have e1 : (p.2.map Str.length).sum = (p.2.map (·.length)).sum := rfl
  have hp : (p.1.ps.map Str.length).sum ≤ 8 * p.1.ps.length := by
    have ha := h.a
    generalize p.1.ps = l at ha
    clear hl
    induction l with
    | nil => exact Nat.le_refl _
    | cons x l ih =>
      have := (ha x List.mem_cons_self).1.2.2
      have := ih fun y hy => ha y (List.mem_cons_of_mem _ hy)
      simp only [List.map_cons, List.sum_cons, List.length_cons]; omega
  unfold fline
  rw [one_len.1]
  simp only [List.map_append, List.sum_append, List.length_append, List.map_cons, List.map_nil, List.sum_cons, List.sum_nil, List.length_cons, List.length_nil, one_len.2.1, e1]
  omega
theorem FTold.ok {T : Str → Option Fn} {n : Nat} {p : Fun × List Str} (h : FTold T n p) : PyData.strOk (ftext p) = true := by
  refine strOk_join one_len.2.2.1 fun x hx => ?_
  unfold fline at hx
  simp only [List.mem_append, List.mem_cons, List.not_mem_nil, or_false] at hx
  rcases hx with ((rfl | hx) | rfl) | hx
  · exact low_ok h.n.1.1
  · exact low_ok (h.a x hx).1.1
  · exact one_len.2.2.2
  · exact h.t.wd.ok x hx
section
variable {T : Str → Option Fn} {n : Nat}
theorem show_program_pu {ps : List (Fun × List Str)} {main : PyData} {wm : List Str} (hT : T "show_program" = some F_show_program) (hp : ∀ p ∈ ps, FTold T n p) (hl : ps.length ≤ 3) (hm : Told T n main wm) :
    Pu T (n + 1) "show_program" [.d (.tuple [.tuple ((ps.map (·.1)).map Fun.d), main])] (.tuple ((ps.map ftext ++ [Str.join " " wm]).map .str)) := .of fun m => by
  refine call_ok hT rfl ?_
  generalize hP : PyData.tuple [.tuple ((ps.map (·.1)).map Fun.d), main] = P
  show Ok (evB (callN T n) F_show_program.body [some (.d P), none, none, none, none] m) fun fl m1 => Ok (fin false m.length fl m1) _
  have e0 : idxop P (.int 0) = some (.tuple ((ps.map (·.1)).map Fun.d)) := by rw [← hP]; exact i_tup.trans atI_0
  have e1 : idxop P (.int 1) = some main := by rw [← hP]; exact i_tup.trans atI_1
  clear hP
  refine xB (x_asg ?_)
  simp only [evE_lst, evL_nil, fzL_nil, mkl_t, Ok_bind, Ok_ok, bind_ok, List.set_cons_zero, List.set_cons_succ]
  refine xB (x_each ?_)
  simp only [evE_idx, evE_var, evE_cst, Ct_int, Ok_bind, Ok_ok, List.getElem?_cons_zero, List.getElem?_cons_succ, rd2_d, e0, opt_some, fz_d]
  refine ⟨_, rfl, ?_⟩
  refine forL_ok (fun i r m' => m' = m ++ [.lst ((ps.take i).map fun p => .str (ftext p))] ∧ ∃ w2 w3 w4 : Option Vl, r = [some (.d P), some (.r m.length), w2, w3, w4]) (n := 0) ⟨rfl, none, none, none, rfl⟩ ?_ ?_
  · rintro i x r m' ⟨j, hj, hij⟩ ⟨rfl, w2, w3, w4, rfl⟩
    have e2 : i = j := by omega
    subst e2
    rw [List.getElem?_map, List.getElem?_map] at hj
    cases hpi : ps[i]? with
    | none => rw [hpi] at hj; cases hj
    | some p =>
      rw [hpi] at hj
      cases hj
      have hpp := hp p (List.mem_of_getElem? hpi)
      have hil := (List.getElem?_eq_some_iff.mp hpi).1
      obtain ⟨b1, b2, b3⟩ := hpp.len
      show Ok (evB (callN T n) (.cons (.app (.var 1) _) .nil) [some (.d P), some (.r m.length), some (.d (.str p.1.nm)), some (.d (.tuple (p.1.ps.map .str))), some (.d p.1.bd)] (m ++ [.lst ((ps.take i).map fun p => .str (ftext p))])) _
      refine xB (x_app (k := m.length) rfl at_last ?_)
      have hl6 := hpp.l
      simp only [evE_mth, evE_cst, Ct_str, Ok_bind, Ok_ok, mtK_join, evE_bin, evE_lst, evE_blt, evE_call, evL_cons, evL_nil, evE_var, fzL_cons, fzL_nil, fz_d, mkl_f, bind_ok, List.getElem?_cons_zero, List.getElem?_cons_succ, rd_d, rd2_d, bl_lstt, outM_lst]
      rw [b_addl (small (by simp; omega)), opt_some, Ok_ok]
      refine hpp.t.sh.ok ?_
      simp only [fzL_cons, fzL_nil, fz_d, Ok_bind, Ok_ok, bind_ok, mkl_f, rd2_d]
      rw [b_addl (small (by simp; omega)), opt_some, Ok_ok]
      have ej : [PyData.str p.1.nm] ++ p.1.ps.map .str ++ [PyData.str ":", .str (Str.join " " p.2)] = ([p.1.nm] ++ p.1.ps ++ [(":" : Str)] ++ [Str.join " " p.2]).map .str := by simp
      rw [ej]
      simp only [fz_d, fzL_nil, Ok_bind, Ok_ok, bind_ok, rd_d, mthop]
      have jl := join_len (s := " ") p.2
      have hz : (([p.1.nm] ++ p.1.ps ++ [(":" : Str)] ++ [Str.join " " p.2]).map Str.length).sum + ([p.1.nm] ++ p.1.ps ++ [(":" : Str)] ++ [Str.join " " p.2]).length * ((" " : Str)).length ≤ 16777216 := by
        have e3 : (p.2.map Str.length).sum = (p.2.map (·.length)).sum := rfl
        unfold fline at b1
        rw [one_len.1] at b1 jl ⊢
        simp only [List.map_append, List.sum_append, List.length_append, List.map_cons, List.map_nil, List.sum_cons, List.sum_nil, List.length_cons, List.length_nil, one_len.2.1, e3] at b1 ⊢
        omega
      rw [join_of hz, opt_some, Ok_ok]
      have et : Str.join " " ([p.1.nm] ++ p.1.ps ++ [(":" : Str)] ++ [Str.join " " p.2]) = ftext p := by
        have := join_in (s := " ") (xs := [p.1.nm] ++ p.1.ps ++ [(":" : Str)]) (ys := p.2) (zs := []) hpp.t.wd.ne
        rw [List.append_nil] at this
        exact this
      rw [et]
      refine ⟨_, _, rfl, at_last, by have : sizeLine = 16777216 := rfl; rw [List.length_map, List.length_take]; omega, fun m2 h3 h4 h5 => x_nil ?_⟩
      rw [mem_last h3 h4 h5]
      refine ⟨?_, _, _, _, rfl⟩
      rw [List.take_add_one, hpi]
      simp
  · rintro r m' ⟨rfl, w2, w3, w4, rfl⟩
    have el : (ps.take (0 + ((ps.map (·.1)).map Fun.d).length)) = ps := by simp
    rw [el]
    have q0 : (m ++ [Cell.lst (ps.map fun p => PyData.str (ftext p))])[m.length]? = some (.lst (ps.map fun p => PyData.str (ftext p))) := at_last
    refine xB (x_ret ?_)
    simp only [evE_blt, evE_bin, evE_lst, evE_idx, evE_call, evL_cons, evL_nil, evE_var, evE_cst, Ct_int, fzL_cons, fzL_nil, fz_d, mkl_f, Ok_bind, Ok_ok, bind_ok, List.getElem?_cons_zero, List.getElem?_cons_succ, rd2_d, e1, opt_some]
    refine hm.sh.ok ?_
    simp only [fzL_cons, fzL_nil, fz_d, Ok_bind, Ok_ok, bind_ok, mkl_f, rd2, rd_lst q0, rd_d]
    rw [b_addl (small (by simp; omega)), opt_some, Ok_ok]
    simp only [rd_d, bl_tupl, outM_val, Ok_ok, fin_d]
    refine ⟨?_, List.take_left' rfl⟩
    simp
theorem lines_pu {ps : List (Fun × List Str)} {main : PyData} {wm : List Str} (hT : T "_law_lines" = some F_law_lines) (hp : ∀ p ∈ ps, FTold T n p) (hl : ps.length ≤ 3) (hm : Told T n main wm) :
    Pu T (n + 1) "_law_lines" [.d (.tuple [.tuple ((ps.map (·.1)).map Fun.d), main])] (.list ((ps.map fline ++ [wm]).map fun l => .list (l.map .str))) := .of fun m => by
  refine call_ok hT rfl ?_
  generalize hP : PyData.tuple [.tuple ((ps.map (·.1)).map Fun.d), main] = P
  show Ok (evB (callN T n) F_law_lines.body [some (.d P), none, none, none, none] m) fun fl m1 => Ok (fin false m.length fl m1) _
  have e0 : idxop P (.int 0) = some (.tuple ((ps.map (·.1)).map Fun.d)) := by rw [← hP]; exact i_tup.trans atI_0
  have e1 : idxop P (.int 1) = some main := by rw [← hP]; exact i_tup.trans atI_1
  clear hP
  refine xB (x_asg ?_)
  refine x_lcE (fun x d => ∃ p ∈ ps, x = p.1.d ∧ Told T n p.1.bd p.2 ∧ d = .list ((fline p).map .str)) ?_
  simp only [evI_e, evE_idx, evE_var, evE_cst, Ct_int, Ok_bind, Ok_ok, bind_ok, List.getElem?_cons_zero, List.getElem?_cons_succ, rd2_d, e0, opt_some, fz_d]
  refine .of ⟨fun x hx acc => ?_, fun ds hds => ?_⟩
  · rw [List.map_map] at hx
    obtain ⟨p, hpm, rfl⟩ := List.mem_map.mp hx
    have hpp := hp p hpm
    obtain ⟨b1, b2, b3⟩ := hpp.len
    have hl6 := hpp.l
    refine ⟨_, rfl, ?_⟩
    show Ok (evE (callN T n) (.bin .add (.bin .add (.bin .add (.lst false (.cons (.var 2) .nil)) (.blt false .list (.var 3))) (.lst false (.cons (.cst (.str ":")) .nil))) (.call "_law_words" (.cons (.var 4) .nil))) [some (.d P), none, some (.d (.str p.1.nm)), some (.d (.tuple (p.1.ps.map .str))), some (.d p.1.bd)] (m ++ [.lst acc])) _
    simp only [evE_cst, Ct_str, Ok_bind, Ok_ok, evE_bin, evE_lst, evE_blt, evL_cons, evL_nil, evE_var, fzL_cons, fzL_nil, fz_d, mkl_f, bind_ok, List.getElem?_cons_zero, List.getElem?_cons_succ, rd_d, rd2_d, bl_lstt, outM_lst]
    rw [b_addl (small (by simp; omega)), opt_some, Ok_ok, rd2_d, b_addl (small (by simp; omega)), opt_some, Ok_ok]
    simp only [evE_call, evL_cons, evL_nil, evE_var, Ok_bind, Ok_ok, bind_ok, List.getElem?_cons_zero, List.getElem?_cons_succ]
    refine hpp.t.wp.ok ?_
    rw [rd2_d, b_addl (small (by
      unfold fline at b2
      simp only [List.length_append, List.length_map, List.length_cons, List.length_nil] at b2 ⊢
      omega)), opt_some, Ok_ok]
    refine ⟨_, rfl, ⟨p, hpm, rfl, hpp.t, ?_⟩, rfl⟩
    simp [fline]
  · have ed : ds = ps.map fun p => PyData.list ((fline p).map .str) := by
      have ln := paired_len hds
      rw [List.length_map, List.length_map] at ln
      apply List.ext_getElem?
      intro i
      rcases Nat.lt_or_ge i ps.length with q | q
      · obtain ⟨p, hpi⟩ : ∃ p, ps[i]? = some p := ⟨_, List.getElem?_eq_getElem q⟩
        obtain ⟨d, hd, p', hp', e2, t2, e3⟩ := paired_at hds (i := i) (a := p.1.d) (by rw [List.getElem?_map, List.getElem?_map, hpi]; rfl)
        have t1 := (hp p (List.mem_of_getElem? hpi)).t
        have e4 : p.1.nm = p'.1.nm ∧ p.1.ps.map PyData.str = p'.1.ps.map PyData.str ∧ p.1.bd = p'.1.bd := by
          unfold Fun.d at e2
          simpa using e2
        have e5 : p.1.ps = p'.1.ps := by
          exact map_str_inj e4.2.1
        have e6 : p.2 = p'.2 := by
          rw [e4.2.2] at t1
          have e := t1.wp m
          rw [t2.wp m] at e
          injection e with e _
          injection e with e
          injection e with e
          exact (map_str_inj e).symm
        rw [List.getElem?_map, hpi, hd, e3]
        unfold fline
        simp [e4.1, e5, e6]
      · rw [List.getElem?_eq_none (by omega), List.getElem?_eq_none (by rw [List.length_map]; omega)]
    subst ed
    simp only [Bool.false_eq_true, if_false, List.set_cons_zero, List.set_cons_succ]
    refine xB (x_ret ?_)
    simp only [evE_bin, evE_lst, evE_idx, evE_call, evL_cons, evL_nil, evE_var, evE_cst, Ct_int, fzL_cons, fzL_nil, fz_d, mkl_f, Ok_bind, Ok_ok, bind_ok, List.getElem?_cons_zero, List.getElem?_cons_succ, rd2_d, e1, opt_some]
    refine hm.wp.ok ?_
    simp only [fzL_cons, fzL_nil, fz_d, Ok_bind, Ok_ok, bind_ok, mkl_f, rd2_d]
    rw [b_addl (small (by simp; omega)), opt_some, Ok_ok]
    simp only [fin_d, Ok_ok, take_same rfl]
    exact ⟨by simp, True.intro⟩
end
end Mp
-- Ev36
set_option Elab.async false
set_option linter.all false
set_option maxRecDepth 100000
set_option maxHeartbeats 2000000
namespace Mp
open PySem L2
section
variable {T : Str → Option Fn} {n : Nat} {m : Mem}
theorem dic_feed {a b c : PyData} : dicOf ["cells", "at", "left"] [a, b, c] = some [(.inr "cells", a), (.inr "at", b), (.inr "left", c)] := by rfl
theorem feed_ok {ns : List Int} {Q : Vl → Mem → Prop} (hF : T "_law_feed!" = some F_law_feed_r) (hQ : ∀ cs, Q (.r m.length) (m ++ [.dct (feedD cs 0 0)])) : Ok (callN T (n + 1) "_law_feed!" [.s ns] m) Q := by
  refine call_ok hF rfl ?_
  show Ok (evB (callN T n) F_law_feed_r.body [some (.s ns)] m) fun fl m1 => Ok (fin true m.length fl m1) _
  refine xB (x_ret ?_)
  rw [evE_dic, Ok_bind]
  have ha : (m ++ [Cell.dct []])[m.length]? = some (.dct []) := at_last
  have hs : ∀ c, (m ++ [Cell.dct []]).set m.length c = m ++ [c] := fun c => by rw [List.set_append_right _ _ (Nat.le_refl _), Nat.sub_self]; rfl
  simp only [evL_cons, evL_nil, evE_blt, evE_slt, evE_var, evE_cst, Ct_int, fzL_nil, fzL_cons, mkl_f, fz_d, Ok_bind, Ok_ok, bind_ok, List.getElem?_cons_zero, rd_d, bl_lstl, outM_lst, dic_feed, ha, hs]
  rw [fin_r (Nat.le_refl _) at_last, Ok_ok, List.take_left' rfl]
  exact hQ _
theorem eqv_strs : ∀ xs : List Str, PyData.eqvAll (xs.map .str) (xs.map .str) = true
  | [] => rfl
  | x :: xs => by
    rw [List.map_cons, PyData.eqvAll, eqv_strs xs, PyData.eqv]
    simp
theorem shp_oks {xs : List Str} (h : ∀ x ∈ xs, PyData.strOk x = true) : Shp (xs.map .str) := by
  have : PyData.canLayAll0 (xs.map .str) = true ∧ PyData.depthAll (xs.map .str) = 0 := by
    induction xs with
    | nil => exact ⟨rfl, rfl⟩
    | cons x xs ih =>
      obtain ⟨a, b⟩ := ih fun y hy => h y (List.mem_cons_of_mem _ hy)
      rw [List.map_cons, PyData.canLayAll0, PyData.depthAll, a, b, PyData.canLay0, PyData.depth, h x List.mem_cons_self]
      exact ⟨rfl, rfl⟩
  exact ⟨this.1, by rw [this.2]; exact Nat.zero_le _⟩
theorem ne_same {xs : List Str} (h : ∀ x ∈ xs, PyData.strOk x = true) : cmpop .ne (.list (xs.map .str)) (.list (xs.map .str)) = some false := by
  show (eqop _ _).map _ = _
  rw [eq_lists (shp_oks h) (shp_oks h), eqv_lists, eqv_strs]
  rfl
structure Has54 (T : Str → Option Fn) : Prop where
  has : Has T
  seeds : T "_law_seeds" = some F_law_seeds
  world : T "_law_world!" = some F_law_world_r
  drawn : T "_law_drawn" = some F_law_drawn
  program : T "_law_program" = some F_law_program
  words : T "_law_words" = some F_law_words
  lines : T "_law_lines" = some F_law_lines
  parts : T "parts" = some F_parts
  show_ : T "show" = some F_show
  showp : T "show_program" = some F_show_program
  feed : T "_law_feed!" = some F_law_feed_r
  law : T "law" = some F_law
/-- the texts of the functions -/
theorem fns_told (h : Has54 T) {fs : List Fun} (hf : Fns fs) : ∃ ps : List (Fun × List Str), ps.map (·.1) = fs ∧ ∀ p ∈ ps, FTold T (n + 13) p := by
  induction hf with
  | nil => exact ⟨[], rfl, fun _ h => by cases h⟩
  | @snoc fs f hf h1 h2 h3 h4 h5 h6 h7 ih =>
    obtain ⟨ps, e, hp⟩ := ih
    obtain ⟨ws, t⟩ := told_ok h.has.parts h.words h.parts h.show_ 12 n f.bd (h6.tr.mono (fun _ _ h => h) (by decide)) (by omega)
    refine ⟨ps ++ [(f, ws)], by simp [e], fun p hp' => ?_⟩
    rcases List.mem_append.mp hp' with hp' | hp'
    · exact hp p hp'
    · rw [List.mem_singleton.mp hp']
      exact ⟨t, h7, h3, h1, h5⟩
theorem law_ok {ns : List Int} (h : Has54 T) (hn : 60 ≤ n) : Ok (callN T (n + 1) "law" [.s ns] m) fun v _ => v = .d (.bool true) := by
  refine call_ok h.law rfl ?_
  show Ok (evB (callN T n) F_law.body [some (.s ns), none, none, none, none, none, none, none, none] m) fun fl m1 => Ok (fin false m.length fl m1) _
  obtain ⟨n', rfl⟩ : ∃ n', n = n' + 14 := ⟨n - 14, by omega⟩
  refine xB (x_asg ?_)
  simp only [evE_call, evL_cons, evL_nil, evE_var, Ok_bind, Ok_ok, bind_ok, List.getElem?_cons_zero]
  refine feed_ok (n := n' + 13) h.feed fun cs => ?_
  simp only [List.set_cons_zero, List.set_cons_succ]
  have hm0 : Fd 0 (m ++ [Cell.dct (feedD cs 0 0)]) m.length := ⟨cs, 0, 0, at_last, by decide, by decide, by decide, by decide⟩
  generalize hkf : m.length = kf at hm0
  generalize m ++ [Cell.dct (feedD cs 0 0)] = m0 at hm0
  clear hkf
  refine xB (x_rng ?_)
  simp only [evE_cst, Ct_int, Ok_ok]
  refine ⟨4, rfl, by decide, by decide, ?_⟩
  refine forL_ok (fun i r m' => i ≤ 4 ∧ ∃ w2 w4 w5 w6 w7 : Option Vl, r = [some (.s ns), some (.r kf), w2, none, w4, w5, w6, w7, none] ∧ Fd (i * 10 ^ 9) m' kf) (n := 0) ⟨by decide, _, _, _, _, _, rfl, hm0.weak (by decide) (by decide)⟩ ?_ ?_
  · rintro i x r m' ⟨j, hj, hij⟩ ⟨hi4, w2, w4, w5, w6, w7, rfl, hf⟩
    have e2 : i = j := by omega
    subst e2
    obtain ⟨rfl, hi⟩ := rngL_at hj
    show Ok (evB (callN T (n' + 14)) (.cons (.asg 6 _) _) [some (.s ns), some (.r kf), some (.d (.int (i : Int))), none, w4, w5, w6, w7, none] m') _
    obtain ⟨z, ez, hz⟩ := atI_in (xs := [PyData.int 4, .int 12, .int 40, .int 25]) (i := (i : Int)) (by omega) (by simpa using hi)
    obtain ⟨K, rfl, K40⟩ : ∃ K : Int, z = .int K ∧ K ≤ 40 := by
      simp only [List.mem_cons, List.not_mem_nil, or_false] at hz
      rcases hz with rfl | rfl | rfl | rfl <;> exact ⟨_, rfl, by decide⟩
    generalize hI : (i : Int) = I at ez hf
    refine xB (x_asg ?_)
    simp only [evE_call, evL_cons, evL_nil, evE_idx, evE_lst, evE_var, evE_cst, Ct_int, fzL_cons, fzL_nil, fz_d, mkl_f, Ok_bind, Ok_ok, bind_ok, List.getElem?_cons_zero, List.getElem?_cons_succ, rd2_d, i_list, ez, opt_some]
    refine (drawn_ok (L := n' + 13) h.has h.seeds h.world h.drawn (by omega) hf K40 (by omega)).mono ?_
    rintro v m1 ⟨e, rfl, he, hce, hf1, fr1⟩
    simp only [List.set_cons_zero, List.set_cons_succ]
    obtain ⟨ws, t⟩ := told_ok h.has.parts h.words h.parts h.show_ 12 (n' + 1) e he.tr (by omega)
    have t : Told T (n' + 14) e ws := t
    refine xB (x_asg ?_)
    simp only [evE_mth, evE_call, evL_cons, evL_nil, evE_var, evE_cst, Ct_str, Ok_bind, Ok_ok, bind_ok, List.getElem?_cons_zero, List.getElem?_cons_succ, mtK_join]
    refine t.wp.ok ?_
    simp only [fzL_cons, fzL_nil, fz_d, Ok_bind, Ok_ok, bind_ok, rd_d, mthop, join_of (Nat.le_trans (text_len t.wd hce) (by decide)), opt_some, List.set_cons_zero, List.set_cons_succ]
    generalize hX : Str.join " " ws = X
    refine xB (x_rng ?_)
    simp only [evE_cst, Ct_int, Ok_ok]
    refine ⟨2, rfl, by decide, by decide, ?_⟩
    refine forL_ok (fun _ r m' => m' = m1 ∧ ∃ w5 w7 : Option Vl, r = [some (.s ns), some (.r kf), some (.d (.int I)), none, some (.d (.str X)), w5, some (.d e), w7, none]) (n := 0) ⟨rfl, _, _, rfl⟩ ?_ ?_
    · rintro i2 x r m' ⟨j, hj, hij⟩ ⟨rfl, w5, w7, rfl⟩
      show Ok (evB (callN T (n' + 14)) (.cons (.asg 7 _) _) [some (.s ns), some (.r kf), some (.d (.int I)), none, some (.d (.str X)), some (.d x), some (.d e), w7, none] m') _
      refine xB (x_asg ?_)
      simp only [evE_call, evL_cons, evL_nil, evE_var, Ok_bind, Ok_ok, bind_ok, List.getElem?_cons_zero, List.getElem?_cons_succ]
      refine t.sh.ok ?_
      rw [hX]
      simp only [List.set_cons_zero, List.set_cons_succ]
      refine xB (x_ife ?_)
      simp only [evE_or, evOr_cons, evOr_one, evE_not, evE_isi, evE_cmp, evE_var, Ok_bind, Ok_ok, List.getElem?_cons_zero, List.getElem?_cons_succ, rd_d, isiop, opB_some, asB_b, Bool.not_true, rd2_d, c_nes, decide_true]
      refine ⟨_, rfl, (fun h => by cases h), fun _ => x_nil (x_nil ⟨rfl, _, _, rfl⟩)⟩
    · rintro r m' ⟨rfl, w5, w7, rfl⟩
      exact x_nil ⟨by omega, _, _, _, _, _, rfl, hf1.weak (by push_cast; omega) (by push_cast; omega)⟩
  · rintro r m' ⟨hi4, w2, w4, w5, w6, w7, rfl, hf⟩
    rw [rngL_len] at hf
    refine xB (x_asg ?_)
    simp only [evE_call, evL_cons, evL_nil, evE_var, evE_cst, Ct_int, Ok_bind, Ok_ok, bind_ok, List.getElem?_cons_zero, List.getElem?_cons_succ]
    refine (program_ok (L := n' + 13) (c := 4 * 10 ^ 9) h.has h.seeds h.world h.program (by omega) (hf.weak (by decide) (by decide)) (by decide) (by decide)).mono ?_
    rintro v m1 ⟨fs, main, rfl, hfs, hfl, hmain, hcm, hf1, fr1⟩
    simp only [List.set_cons_zero, List.set_cons_succ]
    obtain ⟨ps, rfl, hps⟩ := fns_told (n := n') h hfs
    rw [List.length_map] at hfl
    obtain ⟨wm, tm⟩ := told_ok h.has.parts h.words h.parts h.show_ 12 n' main (hmain.tr.mono (fun _ _ h => h) (by decide)) (by omega)
    have tm : Told T (n' + 13) main wm := tm
    have hsp := show_program_pu h.showp hps hfl tm
    have hln := lines_pu h.lines hps hfl tm
    generalize PyData.tuple [.tuple ((ps.map (·.1)).map Fun.d), main] = P at hsp hln
    refine xB (x_asg ?_)
    refine x_lcE (fun x d => ∀ l : List Str, x = .list (l.map .str) → d = .str (Str.join " " l)) ?_
    simp only [evI_e, evE_call, evL_cons, evL_nil, evE_var, Ok_bind, Ok_ok, bind_ok, List.getElem?_cons_zero, List.getElem?_cons_succ]
    refine hln.ok ?_
    simp only [fz_d, Ok_ok]
    refine .of ⟨fun x hx acc => ?_, fun ds hds => ?_⟩
    · obtain ⟨l, hl, rfl⟩ := List.mem_map.mp hx
      have hz : (l.map Str.length).sum + l.length * ((" " : Str)).length ≤ 16777216 := by
        rcases List.mem_append.mp hl with hl | hl
        · obtain ⟨p, hp, rfl⟩ := List.mem_map.mp hl
          exact Nat.le_trans (hps p hp).len.1 (by decide)
        · rw [List.mem_singleton.mp hl]
          exact Nat.le_trans (text_len tm.wd hcm) (by decide)
      refine ⟨_, rfl, ?_⟩
      show Ok (evE (callN T (n' + 14)) (.mth .join (.cst (.str " ")) (.cons (.var 8) .nil)) [some (.s ns), some (.r kf), w2, some (.d P), w4, w5, w6, w7, some (.d (.list (l.map .str)))] (m1 ++ [.lst acc])) _
      simp only [evE_mth, evL_cons, evL_nil, evE_var, evE_cst, Ct_str, Ok_bind, Ok_ok, bind_ok, List.getElem?_cons_zero, List.getElem?_cons_succ, mtK_join, fzL_cons, fzL_nil, fz_d, rd_d, mthop, join_of hz, opt_some]
      exact ⟨_, rfl, (fun l' e => by
        injection e with e
        rw [map_str_inj e]), True.intro⟩
    · have hds2 : ds = (ps.map ftext ++ [Str.join " " wm]).map .str := by
        have ln := paired_len hds
        apply List.ext_getElem?
        intro i
        have e1 : (ps.map ftext ++ [Str.join " " wm]) = (ps.map fline ++ [wm]).map (Str.join " ") := by simp [ftext]
        rw [e1, List.map_map]
        rw [List.length_map] at ln
        rcases Nat.lt_or_ge i (ps.map fline ++ [wm]).length with q | q
        · obtain ⟨l, hl⟩ : ∃ l, (ps.map fline ++ [wm])[i]? = some l := ⟨_, List.getElem?_eq_getElem q⟩
          obtain ⟨d, hd, e2⟩ := paired_at hds (i := i) (a := .list (l.map .str)) (by rw [List.getElem?_map, hl]; rfl)
          rw [hd, List.getElem?_map, hl, e2 l rfl]
          rfl
        · rw [List.getElem?_eq_none (by omega), List.getElem?_eq_none (by rw [List.length_map]; omega)]
      subst hds2
      simp only [Bool.false_eq_true, if_false, List.set_cons_zero, List.set_cons_succ]
      have hok : ∀ x ∈ ps.map ftext ++ [Str.join " " wm], PyData.strOk x = true := fun x hx => by
        rcases List.mem_append.mp hx with hx | hx
        · obtain ⟨p, hp, rfl⟩ := List.mem_map.mp hx
          exact (hps p hp).ok
        · rw [List.mem_singleton.mp hx]
          exact strOk_join one_len.2.2.1 tm.wd.ok
      generalize ps.map ftext ++ [Str.join " " wm] = ts at hok hsp
      refine xB (x_rng ?_)
      simp only [evE_cst, Ct_int, Ok_ok]
      refine ⟨2, rfl, by decide, by decide, ?_⟩
      refine forL_ok (fun _ r m' => m' = m1 ∧ ∃ w5 w7 : Option Vl, r = [some (.s ns), some (.r kf), w2, some (.d P), some (.d (.list (ts.map .str))), w5, w6, w7, none]) (n := 0) ⟨rfl, _, _, rfl⟩ ?_ ?_
      · rintro i2 x r m' ⟨j, hj, hij⟩ ⟨rfl, w5, w7, rfl⟩
        show Ok (evB (callN T (n' + 14)) (.cons (.asg 7 _) _) [some (.s ns), some (.r kf), w2, some (.d P), some (.d (.list (ts.map .str))), some (.d x), w6, w7, none] m') _
        refine xB (x_asg ?_)
        simp only [evE_call, evL_cons, evL_nil, evE_var, Ok_bind, Ok_ok, bind_ok, List.getElem?_cons_zero, List.getElem?_cons_succ]
        refine hsp.ok ?_
        simp only [List.set_cons_zero, List.set_cons_succ]
        refine xB (x_ife ?_)
        simp only [evE_or, evOr_cons, evOr_one, evE_not, evE_isi, evE_cmp, evE_blt, evE_var, Ok_bind, Ok_ok, List.getElem?_cons_zero, List.getElem?_cons_succ, rd_d, isiop, opB_some, asB_b, Bool.not_true, rd2_d, bl_lstt, outM_lst, mkl_f, ne_same hok]
        refine ⟨_, rfl, (fun h => by cases h), fun _ => x_nil (x_nil ⟨rfl, _, _, rfl⟩)⟩
      · rintro r m' ⟨rfl, w5, w7, rfl⟩
        refine xB (x_ret ?_)
        simp only [evE_cst, Ct_bl, Ok_ok, fin_d]
end
end Mp
-- H54
set_option Elab.async false
set_option linter.all false
set_option maxRecDepth 100000
set_option maxHeartbeats 0
namespace Hd
open PySem PySem.Spec PyProof.Rows L2
def top (i : Nat) : Stmt := PySem.Challenge.pw_likepieces_k54_texts_shown.main.body.getD i (.Pass ⟨0, 0, 0, 0⟩)
abbrev R : PySem.W.OpenRow := PySem.W.OpenLaw.row PySem.Challenge.rw_likepieces_k54_texts_shown
def dfn (i : Nat) (x : Str) : He.DefD := ⟨(x, none), x, x, defArgs (top i), defBody (top i), defScope (top i), [], []⟩
def fn0 : List He.DefD := [dfn 1 "parts", dfn 3 "show", dfn 4 "show_program", dfn 6 "_law_feed", dfn 7 "_law_draw", dfn 8 "_law_value", dfn 9 "_law_spelled", dfn 10 "_law_name", dfn 11 "_law_names", dfn 12 "_law_parts", dfn 13 "_law_with", dfn 14 "_law_nodes", dfn 15 "_law_work", dfn 16 "_law_right", dfn 17 "_law_leaf", dfn 18 "_law_turned", dfn 19 "_law_spoilt", dfn 20 "_law_copied", dfn 21 "_law_bound", dfn 22 "_law_called", dfn 23 "_law_expr", dfn 24 "_law_world", dfn 25 "_law_seeds", dfn 26 "_law_program", dfn 27 "_law_drawn", dfn 28 "_law_words", dfn 29 "_law_lines", dfn 30 "law"]
def fn : List He.DefD := fn0
def fa0 : List He.Fa := [.glo "parts", .glo "show", .glo "show_program", .glo "_law_feed", .glo "_law_draw", .glo "_law_value", .glo "_law_spelled", .glo "_law_name", .glo "_law_names", .glo "_law_parts", .glo "_law_with", .glo "_law_nodes", .glo "_law_work", .glo "_law_right", .glo "_law_leaf", .glo "_law_turned", .glo "_law_spoilt", .glo "_law_copied", .glo "_law_bound", .glo "_law_called", .glo "_law_expr", .glo "_law_world", .glo "_law_seeds", .glo "_law_program", .glo "_law_drawn", .glo "_law_words", .glo "_law_lines", .glo "law", .free "all", .free "dict"]
def fa1 : List He.Fa := [.free "int", .free "isinstance", .free "len", .free "list", .free "range", .free "str", .free "sum", .free "tuple"]
def fa : List He.Fa := fa0 ++ fa1
def loose0 : List PySem.Str := ["parts", "show", "show_program", "_law_feed", "_law_draw", "_law_value", "_law_spelled", "_law_name", "_law_names", "_law_parts", "_law_with", "_law_nodes", "_law_work", "_law_right", "_law_leaf", "_law_turned", "_law_spoilt", "_law_copied", "_law_bound", "_law_called", "_law_expr", "_law_world", "_law_seeds", "_law_program", "_law_drawn", "_law_words", "_law_lines"]
def loose : List PySem.Str := loose0
abbrev hk : PySem.W.Hook := He.hookD 4 fa fn
def ob (s : PySem.W.SharedT) : He.AlD := He.obsDG 4 fa fn (HandSHeadRun.getT s)
theorem ob_eq (s : PySem.W.SharedT) : ob s = hk.obs s.abs := He.obsDG_eq (HandSHeadRun.getT_eq s)
theorem run (w : World) : HandSHeadRun.RunEq R (PySem.W.view R.prog [30]) hk ob 2000 loose w := by
  intro os
  kernel_rfl
end Hd
-- E54
set_option Elab.async false
set_option linter.all false
set_option maxRecDepth 100000
set_option maxHeartbeats 0
namespace Mp
open PySem PySem.Spec PyProof.Rows L2
def lookT (x : Str) : List (Str × Fn) → Option Fn
  | [] => none
  | p :: l => if decide (p.1 = x) then some p.2 else lookT x l
theorem lookT_all {P : Fn → Prop} {x : Str} {fn : Fn} : ∀ {l : List (Str × Fn)}, (∀ p ∈ l, P p.2) → lookT x l = some fn → P fn
  | [], _, h => by cases h
  | p :: l, ha, h => by
    unfold lookT at h
    split at h
    · cases h; exact ha p List.mem_cons_self
    · exact lookT_all (fun q hq => ha q (List.mem_cons_of_mem _ hq)) h
def frees : List Str := ["all", "dict", "int", "isinstance", "len", "list", "range", "str", "sum", "tuple"]
def kx : Kx := ⟨fun x => lookT x tab, fun _ => true, fun x => frees.any fun y => decide (y = x)⟩
section
variable {K : PySem.W.Frag} {h : Heap} {mg : Str → Option Value}
theorem chk0 : chkB kx (nms.getD 0 []) F_parts.body (defScope (Hd.top 1)) (defBody (Hd.top 1)) = true := by kernel_rfl
theorem csc0 : C8.scC (nms.getD 0 []) (pss.getD 0 []) (defScope (Hd.top 1)) = true := by kernel_rfl
theorem dok0 (X : K.In h) (Gm : h.Ns mainGlobals mg) (c : He.SaysD Hd.fa Hd.fn K) : DefOk K mg kx F_parts := by
  obtain ⟨fd, F⟩ := c.def_ 0 (d := Hd.dfn 1 "parts") rfl
  exact ⟨_, fd, pss.getD 0 [], _, _, _, _, _, nms.getD 0 [], F, csc0, rfl, rfl, chk0, He.glo_ok X Gm (c.fact 0 (f := .glo "parts") rfl), F.kp, F.bindsN fun _ _ _ _ _ _ us hl => match us, hl with | [_], _ => rfl⟩
theorem chk1 : chkB kx (nms.getD 1 []) F_show.body (defScope (Hd.top 3)) (defBody (Hd.top 3)) = true := by kernel_rfl
theorem csc1 : C8.scC (nms.getD 1 []) (pss.getD 1 []) (defScope (Hd.top 3)) = true := by kernel_rfl
theorem dok1 (X : K.In h) (Gm : h.Ns mainGlobals mg) (c : He.SaysD Hd.fa Hd.fn K) : DefOk K mg kx F_show := by
  obtain ⟨fd, F⟩ := c.def_ 1 (d := Hd.dfn 3 "show") rfl
  exact ⟨_, fd, pss.getD 1 [], _, _, _, _, _, nms.getD 1 [], F, csc1, rfl, rfl, chk1, He.glo_ok X Gm (c.fact 1 (f := .glo "show") rfl), F.kp, F.bindsN fun _ _ _ _ _ _ us hl => match us, hl with | [_], _ => rfl⟩
theorem chk2 : chkB kx (nms.getD 2 []) F_show_program.body (defScope (Hd.top 4)) (defBody (Hd.top 4)) = true := by kernel_rfl
theorem csc2 : C8.scC (nms.getD 2 []) (pss.getD 2 []) (defScope (Hd.top 4)) = true := by kernel_rfl
theorem dok2 (X : K.In h) (Gm : h.Ns mainGlobals mg) (c : He.SaysD Hd.fa Hd.fn K) : DefOk K mg kx F_show_program := by
  obtain ⟨fd, F⟩ := c.def_ 2 (d := Hd.dfn 4 "show_program") rfl
  exact ⟨_, fd, pss.getD 2 [], _, _, _, _, _, nms.getD 2 [], F, csc2, rfl, rfl, chk2, He.glo_ok X Gm (c.fact 2 (f := .glo "show_program") rfl), F.kp, F.bindsN fun _ _ _ _ _ _ us hl => match us, hl with | [_], _ => rfl⟩
theorem chk3 : chkB kx (nms.getD 3 []) F_law_feed_r.body (defScope (Hd.top 6)) (defBody (Hd.top 6)) = true := by kernel_rfl
theorem csc3 : C8.scC (nms.getD 3 []) (pss.getD 3 []) (defScope (Hd.top 6)) = true := by kernel_rfl
theorem dok3 (X : K.In h) (Gm : h.Ns mainGlobals mg) (c : He.SaysD Hd.fa Hd.fn K) : DefOk K mg kx F_law_feed_r := by
  obtain ⟨fd, F⟩ := c.def_ 3 (d := Hd.dfn 6 "_law_feed") rfl
  exact ⟨_, fd, pss.getD 3 [], _, _, _, _, _, nms.getD 3 [], F, csc3, rfl, rfl, chk3, He.glo_ok X Gm (c.fact 3 (f := .glo "_law_feed") rfl), F.kp, F.bindsN fun _ _ _ _ _ _ us hl => match us, hl with | [_], _ => rfl⟩
theorem chk4 : chkB kx (nms.getD 4 []) F_law_draw.body (defScope (Hd.top 7)) (defBody (Hd.top 7)) = true := by kernel_rfl
theorem csc4 : C8.scC (nms.getD 4 []) (pss.getD 4 []) (defScope (Hd.top 7)) = true := by kernel_rfl
theorem dok4 (X : K.In h) (Gm : h.Ns mainGlobals mg) (c : He.SaysD Hd.fa Hd.fn K) : DefOk K mg kx F_law_draw := by
  obtain ⟨fd, F⟩ := c.def_ 4 (d := Hd.dfn 7 "_law_draw") rfl
  exact ⟨_, fd, pss.getD 4 [], _, _, _, _, _, nms.getD 4 [], F, csc4, rfl, rfl, chk4, He.glo_ok X Gm (c.fact 4 (f := .glo "_law_draw") rfl), F.kp, F.bindsN fun _ _ _ _ _ _ us hl => match us, hl with | [_, _], _ => rfl⟩
theorem chk5 : chkB kx (nms.getD 5 []) F_law_value.body (defScope (Hd.top 8)) (defBody (Hd.top 8)) = true := by kernel_rfl
theorem csc5 : C8.scC (nms.getD 5 []) (pss.getD 5 []) (defScope (Hd.top 8)) = true := by kernel_rfl
theorem dok5 (X : K.In h) (Gm : h.Ns mainGlobals mg) (c : He.SaysD Hd.fa Hd.fn K) : DefOk K mg kx F_law_value := by
  obtain ⟨fd, F⟩ := c.def_ 5 (d := Hd.dfn 8 "_law_value") rfl
  exact ⟨_, fd, pss.getD 5 [], _, _, _, _, _, nms.getD 5 [], F, csc5, rfl, rfl, chk5, He.glo_ok X Gm (c.fact 5 (f := .glo "_law_value") rfl), F.kp, F.bindsN fun _ _ _ _ _ _ us hl => match us, hl with | [_], _ => rfl⟩
theorem chk6 : chkB kx (nms.getD 6 []) F_law_spelled.body (defScope (Hd.top 9)) (defBody (Hd.top 9)) = true := by kernel_rfl
theorem csc6 : C8.scC (nms.getD 6 []) (pss.getD 6 []) (defScope (Hd.top 9)) = true := by kernel_rfl
theorem dok6 (X : K.In h) (Gm : h.Ns mainGlobals mg) (c : He.SaysD Hd.fa Hd.fn K) : DefOk K mg kx F_law_spelled := by
  obtain ⟨fd, F⟩ := c.def_ 6 (d := Hd.dfn 9 "_law_spelled") rfl
  exact ⟨_, fd, pss.getD 6 [], _, _, _, _, _, nms.getD 6 [], F, csc6, rfl, rfl, chk6, He.glo_ok X Gm (c.fact 6 (f := .glo "_law_spelled") rfl), F.kp, F.bindsN fun _ _ _ _ _ _ us hl => match us, hl with | [_, _], _ => rfl⟩
theorem chk7 : chkB kx (nms.getD 7 []) F_law_name.body (defScope (Hd.top 10)) (defBody (Hd.top 10)) = true := by kernel_rfl
theorem csc7 : C8.scC (nms.getD 7 []) (pss.getD 7 []) (defScope (Hd.top 10)) = true := by kernel_rfl
theorem dok7 (X : K.In h) (Gm : h.Ns mainGlobals mg) (c : He.SaysD Hd.fa Hd.fn K) : DefOk K mg kx F_law_name := by
  obtain ⟨fd, F⟩ := c.def_ 7 (d := Hd.dfn 10 "_law_name") rfl
  exact ⟨_, fd, pss.getD 7 [], _, _, _, _, _, nms.getD 7 [], F, csc7, rfl, rfl, chk7, He.glo_ok X Gm (c.fact 7 (f := .glo "_law_name") rfl), F.kp, F.bindsN fun _ _ _ _ _ _ us hl => match us, hl with | [_, _], _ => rfl⟩
theorem chk8 : chkB kx (nms.getD 8 []) F_law_names.body (defScope (Hd.top 11)) (defBody (Hd.top 11)) = true := by kernel_rfl
theorem csc8 : C8.scC (nms.getD 8 []) (pss.getD 8 []) (defScope (Hd.top 11)) = true := by kernel_rfl
theorem dok8 (X : K.In h) (Gm : h.Ns mainGlobals mg) (c : He.SaysD Hd.fa Hd.fn K) : DefOk K mg kx F_law_names := by
  obtain ⟨fd, F⟩ := c.def_ 8 (d := Hd.dfn 11 "_law_names") rfl
  exact ⟨_, fd, pss.getD 8 [], _, _, _, _, _, nms.getD 8 [], F, csc8, rfl, rfl, chk8, He.glo_ok X Gm (c.fact 8 (f := .glo "_law_names") rfl), F.kp, F.bindsN fun _ _ _ _ _ _ us hl => match us, hl with | [_, _], _ => rfl⟩
theorem chk9 : chkB kx (nms.getD 9 []) F_law_parts.body (defScope (Hd.top 12)) (defBody (Hd.top 12)) = true := by kernel_rfl
theorem csc9 : C8.scC (nms.getD 9 []) (pss.getD 9 []) (defScope (Hd.top 12)) = true := by kernel_rfl
theorem dok9 (X : K.In h) (Gm : h.Ns mainGlobals mg) (c : He.SaysD Hd.fa Hd.fn K) : DefOk K mg kx F_law_parts := by
  obtain ⟨fd, F⟩ := c.def_ 9 (d := Hd.dfn 12 "_law_parts") rfl
  exact ⟨_, fd, pss.getD 9 [], _, _, _, _, _, nms.getD 9 [], F, csc9, rfl, rfl, chk9, He.glo_ok X Gm (c.fact 9 (f := .glo "_law_parts") rfl), F.kp, F.bindsN fun _ _ _ _ _ _ us hl => match us, hl with | [_], _ => rfl⟩
theorem chk10 : chkB kx (nms.getD 10 []) F_law_parts_r.body (defScope (Hd.top 12)) (defBody (Hd.top 12)) = true := by kernel_rfl
theorem csc10 : C8.scC (nms.getD 10 []) (pss.getD 10 []) (defScope (Hd.top 12)) = true := by kernel_rfl
theorem dok10 (X : K.In h) (Gm : h.Ns mainGlobals mg) (c : He.SaysD Hd.fa Hd.fn K) : DefOk K mg kx F_law_parts_r := by
  obtain ⟨fd, F⟩ := c.def_ 9 (d := Hd.dfn 12 "_law_parts") rfl
  exact ⟨_, fd, pss.getD 10 [], _, _, _, _, _, nms.getD 10 [], F, csc10, rfl, rfl, chk10, He.glo_ok X Gm (c.fact 9 (f := .glo "_law_parts") rfl), F.kp, F.bindsN fun _ _ _ _ _ _ us hl => match us, hl with | [_], _ => rfl⟩
theorem chk11 : chkB kx (nms.getD 11 []) F_law_with.body (defScope (Hd.top 13)) (defBody (Hd.top 13)) = true := by kernel_rfl
theorem csc11 : C8.scC (nms.getD 11 []) (pss.getD 11 []) (defScope (Hd.top 13)) = true := by kernel_rfl
theorem dok11 (X : K.In h) (Gm : h.Ns mainGlobals mg) (c : He.SaysD Hd.fa Hd.fn K) : DefOk K mg kx F_law_with := by
  obtain ⟨fd, F⟩ := c.def_ 10 (d := Hd.dfn 13 "_law_with") rfl
  exact ⟨_, fd, pss.getD 11 [], _, _, _, _, _, nms.getD 11 [], F, csc11, rfl, rfl, chk11, He.glo_ok X Gm (c.fact 10 (f := .glo "_law_with") rfl), F.kp, F.bindsN fun _ _ _ _ _ _ us hl => match us, hl with | [_, _], _ => rfl⟩
theorem chk12 : chkB kx (nms.getD 12 []) F_law_nodes.body (defScope (Hd.top 14)) (defBody (Hd.top 14)) = true := by kernel_rfl
theorem csc12 : C8.scC (nms.getD 12 []) (pss.getD 12 []) (defScope (Hd.top 14)) = true := by kernel_rfl
theorem dok12 (X : K.In h) (Gm : h.Ns mainGlobals mg) (c : He.SaysD Hd.fa Hd.fn K) : DefOk K mg kx F_law_nodes := by
  obtain ⟨fd, F⟩ := c.def_ 11 (d := Hd.dfn 14 "_law_nodes") rfl
  exact ⟨_, fd, pss.getD 12 [], _, _, _, _, _, nms.getD 12 [], F, csc12, rfl, rfl, chk12, He.glo_ok X Gm (c.fact 11 (f := .glo "_law_nodes") rfl), F.kp, F.bindsN fun _ _ _ _ _ _ us hl => match us, hl with | [_], _ => rfl⟩
theorem chk13 : chkB kx (nms.getD 13 []) F_law_work.body (defScope (Hd.top 15)) (defBody (Hd.top 15)) = true := by kernel_rfl
theorem csc13 : C8.scC (nms.getD 13 []) (pss.getD 13 []) (defScope (Hd.top 15)) = true := by kernel_rfl
theorem dok13 (X : K.In h) (Gm : h.Ns mainGlobals mg) (c : He.SaysD Hd.fa Hd.fn K) : DefOk K mg kx F_law_work := by
  obtain ⟨fd, F⟩ := c.def_ 12 (d := Hd.dfn 15 "_law_work") rfl
  exact ⟨_, fd, pss.getD 13 [], _, _, _, _, _, nms.getD 13 [], F, csc13, rfl, rfl, chk13, He.glo_ok X Gm (c.fact 12 (f := .glo "_law_work") rfl), F.kp, F.bindsN fun _ _ _ _ _ _ us hl => match us, hl with | [_, _], _ => rfl⟩
theorem chk14 : chkB kx (nms.getD 14 []) F_law_right.body (defScope (Hd.top 16)) (defBody (Hd.top 16)) = true := by kernel_rfl
theorem csc14 : C8.scC (nms.getD 14 []) (pss.getD 14 []) (defScope (Hd.top 16)) = true := by kernel_rfl
theorem dok14 (X : K.In h) (Gm : h.Ns mainGlobals mg) (c : He.SaysD Hd.fa Hd.fn K) : DefOk K mg kx F_law_right := by
  obtain ⟨fd, F⟩ := c.def_ 13 (d := Hd.dfn 16 "_law_right") rfl
  exact ⟨_, fd, pss.getD 14 [], _, _, _, _, _, nms.getD 14 [], F, csc14, rfl, rfl, chk14, He.glo_ok X Gm (c.fact 13 (f := .glo "_law_right") rfl), F.kp, F.bindsN fun _ _ _ _ _ _ us hl => match us, hl with | [_, _], _ => rfl⟩
theorem chk15 : chkB kx (nms.getD 15 []) F_law_leaf.body (defScope (Hd.top 17)) (defBody (Hd.top 17)) = true := by kernel_rfl
theorem csc15 : C8.scC (nms.getD 15 []) (pss.getD 15 []) (defScope (Hd.top 17)) = true := by kernel_rfl
theorem dok15 (X : K.In h) (Gm : h.Ns mainGlobals mg) (c : He.SaysD Hd.fa Hd.fn K) : DefOk K mg kx F_law_leaf := by
  obtain ⟨fd, F⟩ := c.def_ 14 (d := Hd.dfn 17 "_law_leaf") rfl
  exact ⟨_, fd, pss.getD 15 [], _, _, _, _, _, nms.getD 15 [], F, csc15, rfl, rfl, chk15, He.glo_ok X Gm (c.fact 14 (f := .glo "_law_leaf") rfl), F.kp, F.bindsN fun _ _ _ _ _ _ us hl => match us, hl with | [_, _, _], _ => rfl⟩
theorem chk16 : chkB kx (nms.getD 16 []) F_law_turned.body (defScope (Hd.top 18)) (defBody (Hd.top 18)) = true := by kernel_rfl
theorem csc16 : C8.scC (nms.getD 16 []) (pss.getD 16 []) (defScope (Hd.top 18)) = true := by kernel_rfl
theorem dok16 (X : K.In h) (Gm : h.Ns mainGlobals mg) (c : He.SaysD Hd.fa Hd.fn K) : DefOk K mg kx F_law_turned := by
  obtain ⟨fd, F⟩ := c.def_ 15 (d := Hd.dfn 18 "_law_turned") rfl
  exact ⟨_, fd, pss.getD 16 [], _, _, _, _, _, nms.getD 16 [], F, csc16, rfl, rfl, chk16, He.glo_ok X Gm (c.fact 15 (f := .glo "_law_turned") rfl), F.kp, F.bindsN fun _ _ _ _ _ _ us hl => match us, hl with | [_, _, _], _ => rfl⟩
theorem chk17 : chkB kx (nms.getD 17 []) F_law_spoilt.body (defScope (Hd.top 19)) (defBody (Hd.top 19)) = true := by kernel_rfl
theorem csc17 : C8.scC (nms.getD 17 []) (pss.getD 17 []) (defScope (Hd.top 19)) = true := by kernel_rfl
theorem dok17 (X : K.In h) (Gm : h.Ns mainGlobals mg) (c : He.SaysD Hd.fa Hd.fn K) : DefOk K mg kx F_law_spoilt := by
  obtain ⟨fd, F⟩ := c.def_ 16 (d := Hd.dfn 19 "_law_spoilt") rfl
  exact ⟨_, fd, pss.getD 17 [], _, _, _, _, _, nms.getD 17 [], F, csc17, rfl, rfl, chk17, He.glo_ok X Gm (c.fact 16 (f := .glo "_law_spoilt") rfl), F.kp, F.bindsN fun _ _ _ _ _ _ us hl => match us, hl with | [_, _, _], _ => rfl⟩
theorem chk18 : chkB kx (nms.getD 18 []) F_law_copied.body (defScope (Hd.top 20)) (defBody (Hd.top 20)) = true := by kernel_rfl
theorem csc18 : C8.scC (nms.getD 18 []) (pss.getD 18 []) (defScope (Hd.top 20)) = true := by kernel_rfl
theorem dok18 (X : K.In h) (Gm : h.Ns mainGlobals mg) (c : He.SaysD Hd.fa Hd.fn K) : DefOk K mg kx F_law_copied := by
  obtain ⟨fd, F⟩ := c.def_ 17 (d := Hd.dfn 20 "_law_copied") rfl
  exact ⟨_, fd, pss.getD 18 [], _, _, _, _, _, nms.getD 18 [], F, csc18, rfl, rfl, chk18, He.glo_ok X Gm (c.fact 17 (f := .glo "_law_copied") rfl), F.kp, F.bindsN fun _ _ _ _ _ _ us hl => match us, hl with | [_, _, _, _, _], _ => rfl⟩
theorem chk19 : chkB kx (nms.getD 19 []) F_law_bound.body (defScope (Hd.top 21)) (defBody (Hd.top 21)) = true := by kernel_rfl
theorem csc19 : C8.scC (nms.getD 19 []) (pss.getD 19 []) (defScope (Hd.top 21)) = true := by kernel_rfl
theorem dok19 (X : K.In h) (Gm : h.Ns mainGlobals mg) (c : He.SaysD Hd.fa Hd.fn K) : DefOk K mg kx F_law_bound := by
  obtain ⟨fd, F⟩ := c.def_ 18 (d := Hd.dfn 21 "_law_bound") rfl
  exact ⟨_, fd, pss.getD 19 [], _, _, _, _, _, nms.getD 19 [], F, csc19, rfl, rfl, chk19, He.glo_ok X Gm (c.fact 18 (f := .glo "_law_bound") rfl), F.kp, F.bindsN fun _ _ _ _ _ _ us hl => match us, hl with | [_, _, _, _, _, _], _ => rfl⟩
theorem chk20 : chkB kx (nms.getD 20 []) F_law_called.body (defScope (Hd.top 22)) (defBody (Hd.top 22)) = true := by kernel_rfl
theorem csc20 : C8.scC (nms.getD 20 []) (pss.getD 20 []) (defScope (Hd.top 22)) = true := by kernel_rfl
theorem dok20 (X : K.In h) (Gm : h.Ns mainGlobals mg) (c : He.SaysD Hd.fa Hd.fn K) : DefOk K mg kx F_law_called := by
  obtain ⟨fd, F⟩ := c.def_ 19 (d := Hd.dfn 22 "_law_called") rfl
  exact ⟨_, fd, pss.getD 20 [], _, _, _, _, _, nms.getD 20 [], F, csc20, rfl, rfl, chk20, He.glo_ok X Gm (c.fact 19 (f := .glo "_law_called") rfl), F.kp, F.bindsN fun _ _ _ _ _ _ us hl => match us, hl with | [_, _, _, _, _], _ => rfl⟩
theorem chk21 : chkB kx (nms.getD 21 []) F_law_expr.body (defScope (Hd.top 23)) (defBody (Hd.top 23)) = true := by kernel_rfl
theorem csc21 : C8.scC (nms.getD 21 []) (pss.getD 21 []) (defScope (Hd.top 23)) = true := by kernel_rfl
theorem dok21 (X : K.In h) (Gm : h.Ns mainGlobals mg) (c : He.SaysD Hd.fa Hd.fn K) : DefOk K mg kx F_law_expr := by
  obtain ⟨fd, F⟩ := c.def_ 20 (d := Hd.dfn 23 "_law_expr") rfl
  exact ⟨_, fd, pss.getD 21 [], _, _, _, _, _, nms.getD 21 [], F, csc21, rfl, rfl, chk21, He.glo_ok X Gm (c.fact 20 (f := .glo "_law_expr") rfl), F.kp, F.bindsN fun _ _ _ _ _ _ us hl => match us, hl with | [_, _, _, _, _], _ => rfl⟩
theorem chk22 : chkB kx (nms.getD 22 []) F_law_world_r.body (defScope (Hd.top 24)) (defBody (Hd.top 24)) = true := by kernel_rfl
theorem csc22 : C8.scC (nms.getD 22 []) (pss.getD 22 []) (defScope (Hd.top 24)) = true := by kernel_rfl
theorem dok22 (X : K.In h) (Gm : h.Ns mainGlobals mg) (c : He.SaysD Hd.fa Hd.fn K) : DefOk K mg kx F_law_world_r := by
  obtain ⟨fd, F⟩ := c.def_ 21 (d := Hd.dfn 24 "_law_world") rfl
  exact ⟨_, fd, pss.getD 22 [], _, _, _, _, _, nms.getD 22 [], F, csc22, rfl, rfl, chk22, He.glo_ok X Gm (c.fact 21 (f := .glo "_law_world") rfl), F.kp, F.bindsN fun _ _ _ _ _ _ us hl => match us, hl with | [_, _, _, _, _, _], _ => rfl⟩
theorem chk23 : chkB kx (nms.getD 23 []) F_law_seeds.body (defScope (Hd.top 25)) (defBody (Hd.top 25)) = true := by kernel_rfl
theorem csc23 : C8.scC (nms.getD 23 []) (pss.getD 23 []) (defScope (Hd.top 25)) = true := by kernel_rfl
theorem dok23 (X : K.In h) (Gm : h.Ns mainGlobals mg) (c : He.SaysD Hd.fa Hd.fn K) : DefOk K mg kx F_law_seeds := by
  obtain ⟨fd, F⟩ := c.def_ 22 (d := Hd.dfn 25 "_law_seeds") rfl
  exact ⟨_, fd, pss.getD 23 [], _, _, _, _, _, nms.getD 23 [], F, csc23, rfl, rfl, chk23, He.glo_ok X Gm (c.fact 22 (f := .glo "_law_seeds") rfl), F.kp, F.bindsN fun _ _ _ _ _ _ us hl => match us, hl with | [_, _, _], _ => rfl⟩
theorem chk24 : chkB kx (nms.getD 24 []) F_law_program.body (defScope (Hd.top 26)) (defBody (Hd.top 26)) = true := by kernel_rfl
theorem csc24 : C8.scC (nms.getD 24 []) (pss.getD 24 []) (defScope (Hd.top 26)) = true := by kernel_rfl
theorem dok24 (X : K.In h) (Gm : h.Ns mainGlobals mg) (c : He.SaysD Hd.fa Hd.fn K) : DefOk K mg kx F_law_program := by
  obtain ⟨fd, F⟩ := c.def_ 23 (d := Hd.dfn 26 "_law_program") rfl
  exact ⟨_, fd, pss.getD 24 [], _, _, _, _, _, nms.getD 24 [], F, csc24, rfl, rfl, chk24, He.glo_ok X Gm (c.fact 23 (f := .glo "_law_program") rfl), F.kp, F.bindsN fun _ _ _ _ _ _ us hl => match us, hl with | [_, _], _ => rfl⟩
theorem chk25 : chkB kx (nms.getD 25 []) F_law_drawn.body (defScope (Hd.top 27)) (defBody (Hd.top 27)) = true := by kernel_rfl
theorem csc25 : C8.scC (nms.getD 25 []) (pss.getD 25 []) (defScope (Hd.top 27)) = true := by kernel_rfl
theorem dok25 (X : K.In h) (Gm : h.Ns mainGlobals mg) (c : He.SaysD Hd.fa Hd.fn K) : DefOk K mg kx F_law_drawn := by
  obtain ⟨fd, F⟩ := c.def_ 24 (d := Hd.dfn 27 "_law_drawn") rfl
  exact ⟨_, fd, pss.getD 25 [], _, _, _, _, _, nms.getD 25 [], F, csc25, rfl, rfl, chk25, He.glo_ok X Gm (c.fact 24 (f := .glo "_law_drawn") rfl), F.kp, F.bindsN fun _ _ _ _ _ _ us hl => match us, hl with | [_, _], _ => rfl⟩
theorem chk26 : chkB kx (nms.getD 26 []) F_law_words.body (defScope (Hd.top 28)) (defBody (Hd.top 28)) = true := by kernel_rfl
theorem csc26 : C8.scC (nms.getD 26 []) (pss.getD 26 []) (defScope (Hd.top 28)) = true := by kernel_rfl
theorem dok26 (X : K.In h) (Gm : h.Ns mainGlobals mg) (c : He.SaysD Hd.fa Hd.fn K) : DefOk K mg kx F_law_words := by
  obtain ⟨fd, F⟩ := c.def_ 25 (d := Hd.dfn 28 "_law_words") rfl
  exact ⟨_, fd, pss.getD 26 [], _, _, _, _, _, nms.getD 26 [], F, csc26, rfl, rfl, chk26, He.glo_ok X Gm (c.fact 25 (f := .glo "_law_words") rfl), F.kp, F.bindsN fun _ _ _ _ _ _ us hl => match us, hl with | [_], _ => rfl⟩
theorem chk27 : chkB kx (nms.getD 27 []) F_law_lines.body (defScope (Hd.top 29)) (defBody (Hd.top 29)) = true := by kernel_rfl
theorem csc27 : C8.scC (nms.getD 27 []) (pss.getD 27 []) (defScope (Hd.top 29)) = true := by kernel_rfl
theorem dok27 (X : K.In h) (Gm : h.Ns mainGlobals mg) (c : He.SaysD Hd.fa Hd.fn K) : DefOk K mg kx F_law_lines := by
  obtain ⟨fd, F⟩ := c.def_ 26 (d := Hd.dfn 29 "_law_lines") rfl
  exact ⟨_, fd, pss.getD 27 [], _, _, _, _, _, nms.getD 27 [], F, csc27, rfl, rfl, chk27, He.glo_ok X Gm (c.fact 26 (f := .glo "_law_lines") rfl), F.kp, F.bindsN fun _ _ _ _ _ _ us hl => match us, hl with | [_], _ => rfl⟩
theorem chk28 : chkB kx (nms.getD 28 []) F_law.body (defScope (Hd.top 30)) (defBody (Hd.top 30)) = true := by kernel_rfl
theorem csc28 : C8.scC (nms.getD 28 []) (pss.getD 28 []) (defScope (Hd.top 30)) = true := by kernel_rfl
theorem dok28 (X : K.In h) (Gm : h.Ns mainGlobals mg) (c : He.SaysD Hd.fa Hd.fn K) : DefOk K mg kx F_law := by
  obtain ⟨fd, F⟩ := c.def_ 27 (d := Hd.dfn 30 "law") rfl
  exact ⟨_, fd, pss.getD 28 [], _, _, _, _, _, nms.getD 28 [], F, csc28, rfl, rfl, chk28, He.glo_ok X Gm (c.fact 27 (f := .glo "law") rfl), F.kp, F.bindsN fun _ _ _ _ _ _ us hl => match us, hl with | [_], _ => rfl⟩
theorem hD (X : K.In h) (Gm : h.Ns mainGlobals mg) (c : He.SaysD Hd.fa Hd.fn K) : ∀ f fn, kx.T f = some fn → kx.Pr f = true → DefOk K mg kx fn := fun f fn e _ =>
  lookT_all (P := fun fn => DefOk K mg kx fn) (List.forall_mem_cons.mpr ⟨dok0 X Gm c, (List.forall_mem_cons.mpr ⟨dok1 X Gm c, (List.forall_mem_cons.mpr ⟨dok2 X Gm c, (List.forall_mem_cons.mpr ⟨dok3 X Gm c, (List.forall_mem_cons.mpr ⟨dok4 X Gm c, (List.forall_mem_cons.mpr ⟨dok5 X Gm c, (List.forall_mem_cons.mpr ⟨dok6 X Gm c, (List.forall_mem_cons.mpr ⟨dok7 X Gm c, (List.forall_mem_cons.mpr ⟨dok8 X Gm c, (List.forall_mem_cons.mpr ⟨dok9 X Gm c, (List.forall_mem_cons.mpr ⟨dok10 X Gm c, (List.forall_mem_cons.mpr ⟨dok11 X Gm c, (List.forall_mem_cons.mpr ⟨dok12 X Gm c, (List.forall_mem_cons.mpr ⟨dok13 X Gm c, (List.forall_mem_cons.mpr ⟨dok14 X Gm c, (List.forall_mem_cons.mpr ⟨dok15 X Gm c, (List.forall_mem_cons.mpr ⟨dok16 X Gm c, (List.forall_mem_cons.mpr ⟨dok17 X Gm c, (List.forall_mem_cons.mpr ⟨dok18 X Gm c, (List.forall_mem_cons.mpr ⟨dok19 X Gm c, (List.forall_mem_cons.mpr ⟨dok20 X Gm c, (List.forall_mem_cons.mpr ⟨dok21 X Gm c, (List.forall_mem_cons.mpr ⟨dok22 X Gm c, (List.forall_mem_cons.mpr ⟨dok23 X Gm c, (List.forall_mem_cons.mpr ⟨dok24 X Gm c, (List.forall_mem_cons.mpr ⟨dok25 X Gm c, (List.forall_mem_cons.mpr ⟨dok26 X Gm c, (List.forall_mem_cons.mpr ⟨dok27 X Gm c, (List.forall_mem_cons.mpr ⟨dok28 X Gm c, (fun _ h => by cases h)⟩)⟩)⟩)⟩)⟩)⟩)⟩)⟩)⟩)⟩)⟩)⟩)⟩)⟩)⟩)⟩)⟩)⟩)⟩)⟩)⟩)⟩)⟩)⟩)⟩)⟩)⟩)⟩)⟩) e
theorem hF (X : K.In h) (Gm : h.Ns mainGlobals mg) (c : He.SaysD Hd.fa Hd.fn K) : ∀ x, kx.Fr x = true → mg x = none := by
  intro x hx
  obtain ⟨y, hy, e⟩ := List.any_eq_true.mp hx
  have e := of_decide_eq_true e
  subst e
  have q : ∀ z ∈ frees, mg z = none := (List.forall_mem_cons.mpr ⟨He.free_ok X Gm (c.fact 28 (f := .free "all") rfl), (List.forall_mem_cons.mpr ⟨He.free_ok X Gm (c.fact 29 (f := .free "dict") rfl), (List.forall_mem_cons.mpr ⟨He.free_ok X Gm (c.fact 30 (f := .free "int") rfl), (List.forall_mem_cons.mpr ⟨He.free_ok X Gm (c.fact 31 (f := .free "isinstance") rfl), (List.forall_mem_cons.mpr ⟨He.free_ok X Gm (c.fact 32 (f := .free "len") rfl), (List.forall_mem_cons.mpr ⟨He.free_ok X Gm (c.fact 33 (f := .free "list") rfl), (List.forall_mem_cons.mpr ⟨He.free_ok X Gm (c.fact 34 (f := .free "range") rfl), (List.forall_mem_cons.mpr ⟨He.free_ok X Gm (c.fact 35 (f := .free "str") rfl), (List.forall_mem_cons.mpr ⟨He.free_ok X Gm (c.fact 36 (f := .free "sum") rfl), (List.forall_mem_cons.mpr ⟨He.free_ok X Gm (c.fact 37 (f := .free "tuple") rfl), (fun _ h => by cases h)⟩)⟩)⟩)⟩)⟩)⟩)⟩)⟩)⟩)⟩)
  exact q y hy
end
/-- what is to be shown of the texts -/
def LawRuns : Prop := ∀ ns : List Int, ns.length ≤ 63 → ∃ m, callN kx.T 120 "law" [.s ns] [] = .ok (.d (.bool true)) m
theorem facts (run : LawRuns) {P : Program} {w : PySem.World} {K : PySem.W.Frag} {h : Heap} {mg : Str → Option Value} {f : Addr} (X : K.In h) (Gm : h.Ns mainGlobals mg) (hfa : mg ("law" : Str) = some (.ref f)) (c : He.SaysD Hd.fa Hd.fn K) :
    ∃ fd : FuncData, (∀ (s : Shared) (v : Value), BindsTo s fd ⟨[v], []⟩ [("script", v)]) ∧ ∀ base : Heap, K.In base → base.Ns mainGlobals mg → FnOk P w K mg base CX0 120 f fd ["script"] (spF K kx.T 120 "law") := by
  obtain ⟨fd, F⟩ := c.def_ 27 (d := Hd.dfn 30 "law") rfl
  have e := hfa.symm.trans (He.glo_ok X Gm (c.fact 27 (f := .glo "law") rfl))
  cases e
  have b := FunD.bindsA (ps := ["script"]) F fun _ _ _ _ _ _ us hl => match us, hl with | [_], _ => rfl
  refine ⟨fd, fun s v => b s [v] rfl, fun base hb hn => ?_⟩
  exact fn_ok1 (hD X Gm c) (hF X Gm c) (f := "law") (fn := F_law) (by kernel_rfl) rfl F csc28 rfl rfl chk28 120 
theorem spL (run : LawRuns) {K : PySem.W.Frag} {H : Hp} {a : Addr} {ns : List Int} (hl : ns.length ≤ 63) (hO : Only H) (hS : SqL K H a (ns.map V.int)) : spF K kx.T 120 "law" [.ref a] H (fun v _ => v = .bl true) fun _ _ _ => False := by
  obtain ⟨m, e⟩ := run ns hl
  refine ⟨[], [], [.s ns], fun _ _ _ => False, fun _ _ _ h => h, ⟨rfl, List.nodup_nil, fun n c a h => by simp at h⟩, .cons ⟨a, rfl, ?_, Nat.le_trans hl (by decide)⟩ .nil, ?_⟩
  · rcases hS with (h | h) | h
    · rcases hO a with q | ⟨o, xs, q⟩
      · rw [h] at q; cases q
      · rw [h] at q; cases q
    · exact .inl h
    · exact .inr h
  · rw [e]
    intro m' H' x W' G' rx
    cases rx
    rfl
theorem law_end (run : LawRuns) : PySem.Challenge.rw_likepieces_k54_texts_shown.Holds := by
  open PySem PySem.W PySem.Calls PyProof.Rows in
  w_on; o_law
  refine HandSHeadRun.head_any (r := OpenLaw.row PySem.Challenge.rw_likepieces_k54_texts_shown) (q := view (OpenLaw.row PySem.Challenge.rw_likepieces_k54_texts_shown).prog [30]) (H := Hd.hk) (ob := Hd.ob) (M := 2000) (loose := Hd.loose) (d := HandSHeadRun.topDef (OpenLaw.row PySem.Challenge.rw_likepieces_k54_texts_shown).prog 30) (kwd := []) Hd.ob_eq
    (by kernel_rfl) (fun s => by kernel_rfl) Hd.run (by kernel_rfl) (by kernel_rfl) (by kernel_rfl) (by rfl) (by first | assumption | decide +kernel) (by decide +kernel) ⟨rfl, rfl, rfl, rfl, rfl, by decide +kernel⟩ ?hw ?hc
  case hw => w_witness2
  case hc =>
    refine L2.walk_ofE (l := PySem.Challenge.rw_likepieces_k54_texts_shown) (n := 63) (k := 120) (x := "script") (CX := L2.CX0) rfl (by decide) (by kernel_rfl) ⟨rfl, by decide, by decide⟩ ?F (fun _ _ _ _ z => z)
    intro w mg fa h Y Gm hmg0
    obtain ⟨K, KX, c⟩ := Y
    have hmg : mg ("law" : PySem.Str) = some (.ref fa) := by
      have e : (HandSHeadRun.topDef (OpenLaw.row PySem.Challenge.rw_likepieces_k54_texts_shown).prog 30).name = ("law" : PySem.Str) := by kernel_rfl
      rw [← e]
      exact hmg0
    obtain ⟨fd, hb, hF⟩ := facts run (P := (PySem.Challenge.rw_likepieces_k54_texts_shown).prog) (w := w) KX Gm hmg c
    exact ⟨K, fd, spF K kx.T 120 "law", KX, hb, fun H a ns hl hO hS => spL run hl hO hS, hF⟩
end Mp
-- Z54
set_option Elab.async false
set_option linter.all false
set_option maxRecDepth 100000
set_option maxHeartbeats 0
namespace Mp
open PySem L2
theorem has54 : Has54 kx.T := ⟨⟨by kernel_rfl, by kernel_rfl, by kernel_rfl, by kernel_rfl, by kernel_rfl, by kernel_rfl, by kernel_rfl, by kernel_rfl, by kernel_rfl, by kernel_rfl, by kernel_rfl, by kernel_rfl, by kernel_rfl, by kernel_rfl, by kernel_rfl, by kernel_rfl, by kernel_rfl, by kernel_rfl⟩, by kernel_rfl, by kernel_rfl, by kernel_rfl, by kernel_rfl, by kernel_rfl, by kernel_rfl, by kernel_rfl, by kernel_rfl, by kernel_rfl, by kernel_rfl, by kernel_rfl⟩
theorem runs : LawRuns := fun ns _ => by
  obtain ⟨v, m, e, rfl⟩ := (law_ok (n := 119) (m := []) (ns := ns) has54 (by decide)).ex
  exact ⟨m, e⟩
end Mp
set_option maxHeartbeats 8000000 in
theorem PySem.Challenge.cw_likepieces_k54_texts_shown_holds : PySem.Challenge.rw_likepieces_k54_texts_shown.Holds :=
  Mp.law_end Mp.runs
