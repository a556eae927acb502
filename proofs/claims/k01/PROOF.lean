import PyProof.Rows.All
import Wide.All
import OpenK.AllK
import Wide.FinOn
import KE.KStateDown
import HandS.ForMost
import HandS.More
import HandS.Slots
import HandS.SlotsOwn
import HandS.IsInst
import HandS.Deep
import HandS.TupAny
import HandS.Walk
import HandS.Zip
import KE.GoesMore
import KE.GoesEnum
import HandS.ExcOwn
import HandS.Lambda
import HandS.CallSlots
import HandS.Comp
import HandS.Style
import HandS.SortOrd
import HandS.SortKw
import HandS.NamedTupSort
import KE.KSortKey
import KE.KSortTup
import HandS.TupSets
import HandS.Conv
import HandS.Star
import HandS.HeadHook4
import HandS.HeadWalk
import HandS.Head0
import HandS.Head1
import HandS.Head2
import PySem.Challenge.RW_shutroads_k01_whole_walks
set_option Elab.async false
set_option linter.all false
set_option maxRecDepth 100000
set_option maxHeartbeats 0
/-! Z1: plain data, the small language, its evaluator. -/
namespace Z
open PySem

/-- plain data -/
inductive D where
  | non | bl (b : Bool) | int (i : Int) | str (x : Str)
  | tup (ds : List D) | lst (ds : List D) | dic (ks vs : List D) | ins (c : Nat) (fs : List D)
/-- an error: its class, its fields -/
structure Xc where
  c : Nat
  fs : List D
inductive R (α : Type) where
  | ok (a : α) | ex (x : Xc) | no
def R.bind {α β : Type} (r : R α) (f : α → R β) : R β := match r with
  | .ok a => f a
  | .ex x => .ex x
  | .no => .no
def chk {α : Type} (c : Bool) (a : α) : R α := if c then .ok a else .no
theorem chk_ok {α : Type} {c : Bool} {a b : α} (h : chk c a = .ok b) : c = true ∧ a = b := by
  unfold chk at h
  cases c with
  | true => exact ⟨rfl, by simpa using h⟩
  | false => simp at h
theorem chk_t {α : Type} (a : α) : chk true a = .ok a := rfl
/-- an operation raises nothing of its own here -/
def nx {α : Type} (r : R α) : R α := match r with
  | .ok a => .ok a
  | _ => .no
def rb {α β : Type} (o : Option α) (f : α → R β) : R β := match o with
  | some a => f a
  | none => .no
theorem rb_ok {α β : Type} {o : Option α} {f : α → R β} {b : β} (h : rb o f = .ok b) : ∃ a, o = some a ∧ f a = .ok b := by
  cases o with
  | none => cases h
  | some a => exact ⟨a, rfl, h⟩
/-! ### sorting -/
def insr {α : Type} (le : α → α → Bool) (x : α) : List α → List α
  | [] => [x]
  | y :: r => if le x y then x :: y :: r else y :: insr le x r
def isort {α : Type} (le : α → α → Bool) : List α → List α
  | [] => []
  | x :: r => insr le x (isort le r)
/-- operators -/
inductive Bo where | add | sub | mul | fdiv | mod
inductive Co where | eq | ne | lt | le | gt | ge | isin | notin | isN | notN
/-- built-in calls -/
inductive Bf where
  | len | abs | int | min2 | max2 | all | any | sum | min1 | max1 | sorted | tuple | list | sset | slen
/-- a kind that isinstance asks for -/
inductive Ty where | int | bool | str | tuple | list | dict | seq | own (c : Nat)
/-- a target -/
inductive Tg where
  | nm (i : Nat) | tp (t : Tg) | nil | cons (a r : Tg)
/-- expressions, argument lists, things to walk -/
inductive Ex where
  | v (i : Nat) | b (i : Nat) | k (d : D)
  | bin (o : Bo) (x y : Ex) | neg (x : Ex) | nt (x : Ex)
  | cmp (o : Co) (x y : Ex) | chn (o p : Co) (x y z : Ex)
  | an (x y : Ex) | orr (x y : Ex) | ite (c x y : Ex)
  | nil | cons (x r : Ex) | star (x r : Ex)
  | tup (l : Ex) | lst (l : Ex)
  | idx (x i : Ex) | sl (x lo hi : Ex)
  | att (x : Ex) (n : Nat)
  | call (f : Nat) (l : Ex) | meth (x : Ex) (n : Nat) (l : Ex)
  | blt (f : Bf) (l : Ex) | isi (x : Ex) (t : Ty)
  | lc (e : Ex) (t : Tg) (s c : Ex) | lrg (x y : Ex)
  | sSeq (x : Ex) | sEnum (x : Ex) | sZip (x y : Ex) | sRng (x y : Ex)
  | tan (x y : Ex) | tor (x y : Ex) | tnt (x : Ex) | tv (x : Ex) | tyes
  | dget (x k : Ex) | dct (l : Ex)
/-- statements -/
inductive Sx where
  | nil | seq (s r : Sx)
  | asg (t : Tg) (e : Ex) | asgO (i : Nat) (e : Ex) | par (l : List (Nat × Bool)) (e : Ex)
  | drop (e : Ex) | ret (e : Ex) | retN
  | iff (c : Ex) (a b : Sx) | forr (t : Tg) (s : Ex) (a : Sx) | whil (c : Ex) (a : Sx)
  | pass | rais (c : Nat) (l : Ex) | brk | cnt
  | app (i : Nat) (e : Ex) | ext (i : Nat) (e : Ex) | pop (t : Tg) (i : Nat) (l : Ex) | set (i : Nat) (k e : Ex)
  | fld (i n : Nat) (e : Ex) | nev | frz (i : Nat)
/-- what a slot holds: a value; one that its owner still changes; one of ours that we change; a new instance -/
inductive SV where
  | val (d : D) | brw (d : D) | own (d : D) | slf (c : Nat) (fs : List (Option D))
abbrev Sl := List (Option SV)
/-- the program's own things -/
structure Pg where
  F : Nat → List D → R D
  sl : Nat → Nat → Option Nat
  pr : Nat → Nat → Option Nat
  mt : Nat → Nat → Option Nat
  ln : Nat → Option Nat
  nc : Nat

/-! ### operations on data -/
def D.ints : List D → Option (List Int)
  | [] => some []
  | .int i :: r => (D.ints r).map (i :: ·)
  | _ => none
def D.bls : List D → Option (List Bool)
  | [] => some []
  | .bl i :: r => (D.bls r).map (i :: ·)
  | _ => none
mutual
def D.py : D → Option PyData
  | .non => some .none
  | .bl b => some (.bool b)
  | .int i => some (.int i)
  | .str x => some (.str x)
  | .tup ds => (D.pys ds).map .tuple
  | .lst ds => (D.pys ds).map .list
  | .dic _ _ => none
  | .ins _ _ => none
def D.pys : List D → Option (List PyData)
  | [] => some []
  | d :: r => match d.py, D.pys r with
    | some x, some xs => some (x :: xs)
    | _, _ => none
end
/-- d == e -/
def dEq (d e : D) : R Bool := match d.py, e.py with
  | some x, some y => chk (SeqAt.shaped x && SeqAt.shaped y) (PyData.eqv x y)
  | _, _ => .no
/-- x in ds -/
def dIn (x : D) (ds : List D) : R Bool := match x.py, (D.lst ds).py with
  | some p, some (.list ps) => chk (SeqAt.shaped p && SeqAt.shaped (.list ps)) (ps.any fun z => PyData.eqv z p)
  | _, _ => .no
/-- a dict's value; the place of a key (ints and texts alone) -/
def kEq : D → D → Bool
  | .int i, .int j => decide (i = j)
  | .str x, .str y => decide (x = y)
  | _, _ => false
def isKey : D → Bool
  | .int _ => true
  | .str _ => true
  | _ => false
def dGet (k : D) : List D → List D → Option D
  | a :: ks, v :: vs => if kEq a k then some v else dGet k ks vs
  | _, _ => none
def dPut (k v : D) : List D → List D → List D × List D
  | a :: ks, b :: vs => if kEq a k then (a :: ks, v :: vs) else let r := dPut k v ks vs; (a :: r.1, b :: r.2)
  | _, _ => ([k], [v])
/-- {k: v, ..} -/
def dctD : List D → List D → List D → R D
  | [], ks, vs => .ok (.dic ks vs)
  | k :: v :: r, ks, vs => if isKey k then let q := dPut k v ks vs; dctD r q.1 q.2 else .no
  | _, _, _ => .no
def dBin : Bo → D → D → R D
  | .add, .int i, .int j => .ok (.int (i + j))
  | .sub, .int i, .int j => .ok (.int (i - j))
  | .mul, .int i, .int j => chk ((decide (-(2 ^ 64) < i) && decide (i < 2 ^ 64)) || (decide (-(2 ^ 64) < j) && decide (j < 2 ^ 64))) (.int (i * j))
  | .fdiv, .int i, .int j => chk (decide (0 < j) && decide (j < 1073741824)) (.int (i / j))
  | .mod, .int i, .int j => chk (decide (0 < j)) (.int (i % j))
  | .add, .tup a, .tup b => chk (decide (a.length + b.length ≤ 1000000)) (.tup (a ++ b))
  | .add, .lst a, .lst b => chk (decide (a.length + b.length ≤ 1000000)) (.lst (a ++ b))
  | .mul, .lst a, .int j => chk (decide (0 ≤ j) && decide (j < 1000000) && decide (a.length * j.toNat ≤ 1000000)) (.lst (List.replicate j.toNat a).flatten)
  | _, _, _ => .no
def dCmp : Co → D → D → R D
  | .eq, d, e => (dEq d e).bind fun b => .ok (.bl b)
  | .ne, d, e => (dEq d e).bind fun b => .ok (.bl (!b))
  | .lt, .int i, .int j => .ok (.bl (decide (i < j)))
  | .le, .int i, .int j => .ok (.bl (decide (i ≤ j)))
  | .gt, .int i, .int j => .ok (.bl (decide (j < i)))
  | .ge, .int i, .int j => .ok (.bl (decide (j ≤ i)))
  | .lt, .tup a, .tup b => match D.ints a, D.ints b with
    | some x, some y => .ok (.bl (HT.lexLt x y))
    | _, _ => .no
  | .isin, x, .lst ds => (dIn x ds).bind fun b => .ok (.bl b)
  | .isin, x, .tup ds => (dIn x ds).bind fun b => .ok (.bl b)
  | .isin, x, .dic ks vs => chk (isKey x) (.bl (dGet x ks vs).isSome)
  | .notin, x, .lst ds => (dIn x ds).bind fun b => .ok (.bl !b)
  | .notin, x, .tup ds => (dIn x ds).bind fun b => .ok (.bl !b)
  | .notin, x, .dic ks vs => chk (isKey x) (.bl !(dGet x ks vs).isSome)
  | .isN, d, .non => match d with | .non => .ok (.bl true) | _ => .ok (.bl false)
  | .notN, d, .non => match d with | .non => .ok (.bl false) | _ => .ok (.bl true)
  | _, _, _ => .no
def dTru : D → R Bool
  | .bl b => .ok b
  | _ => .no
def dIdx : D → D → R D
  | .lst ds, .int i => rb (L2.atI ds i) .ok
  | .tup ds, .int i => rb (L2.atI ds i) .ok
  | .dic ks vs, k => (chk (isKey k) ()).bind fun _ => rb (dGet k ks vs) .ok
  | _, _ => .no
/-- the part of a list -/
def cutD (ds : List D) (lo hi : Option Int) : List D := (ds.drop (HT.sIx ds.length 0 lo)).take (HT.sIx ds.length ds.length hi - HT.sIx ds.length 0 lo)
def dPart : D → R (Option Int)
  | .int i => .ok (some i)
  | _ => .no
def isNo : Ex → Bool
  | .nil => true
  | _ => false
def dSl : D → Option Int → Option Int → R D
  | .lst ds, lo, hi => .ok (.lst (cutD ds lo hi))
  | .tup ds, lo, hi => .ok (.tup (cutD ds lo hi))
  | _, _, _ => .no
def isTy : Ty → D → Bool
  | .int, .int _ => true
  | .int, .bl _ => true
  | .bool, .bl _ => true
  | .str, .str _ => true
  | .tuple, .tup _ => true
  | .list, .lst _ => true
  | .dict, .dic _ _ => true
  | .seq, .lst _ => true
  | .seq, .tup _ => true
  | .own c, .ins k _ => decide (c = k)
  | _, _ => false
def cOk (n : Nat) : D → Bool
  | .ins c _ => decide (c < n)
  | _ => true
/-- lists of lists of ints, by length and then in order; triples -/
def D.rows : List D → Option (List (List Int))
  | [] => some []
  | .tup d :: r => match D.ints d, D.rows r with
    | some x, some xs => some (x :: xs)
    | _, _ => none
  | _ => none
def leLen (a b : List Int) : Bool := if a.length = b.length then !HT.lexLt b a else decide (a.length < b.length)
def leLex (a b : List Int) : Bool := !HT.lexLt b a
def leI (a b : Int) : Bool := decide (a ≤ b)
def rowD (ns : List Int) : D := .tup (ns.map .int)
/-- each once -/
def ddp : List (List Int) → List (List Int)
  | [] => []
  | x :: r => if x ∈ r then ddp r else x :: ddp r
def okRow (r : List Int) : Bool := decide (r.length = 3) && r.all fun x => decide (0 ≤ x) && decide (x < 64)
def lenD : D → R D
  | .int i => chk (decide (0 ≤ i) && decide (i < 1000000)) (.int i)
  | _ => .no
def dBlt (G : Pg) : Bf → List D → R D
  | .len, [.lst ds] => .ok (.int ds.length)
  | .len, [.tup ds] => .ok (.int ds.length)
  | .len, [.dic ks _] => .ok (.int ks.length)
  | .len, [.ins c fs] => rb (G.ln c) fun f => (G.F f [.ins c fs]).bind lenD
  | .abs, [.int i] => .ok (.int (if i < 0 then -i else i))
  | .int, [.int i] => .ok (.int i)
  | .min2, [.int i, .int j] => .ok (.int (if j < i then j else i))
  | .max2, [.int i, .int j] => .ok (.int (if j > i then j else i))
  | .all, [.lst ds] => rb (D.bls ds) fun bs => .ok (.bl (bs.all id))
  | .any, [.lst ds] => rb (D.bls ds) fun bs => .ok (.bl (bs.any id))
  | .sum, [.lst ds] => rb (D.ints ds) fun ns => .ok (.int ns.sum)
  | .sorted, [.lst ds] => rb (D.ints ds) fun ns => chk (decide (ns.length < 64)) (.lst ((isort leI ns).map .int))
  | .sorted, [.tup ds] => rb (D.ints ds) fun ns => chk (decide (ns.length < 64)) (.lst ((isort leI ns).map .int))
  | .tuple, [.lst ds] => .ok (.tup ds)
  | .tuple, [.tup ds] => .ok (.tup ds)
  | .list, [.lst ds] => .ok (.lst ds)
  | .list, [.tup ds] => .ok (.lst ds)
  | .sset, [.lst ds] => rb (D.rows ds) fun rs => chk (decide (rs.length < 64) && rs.all okRow) (.lst ((isort leLex (ddp rs)).map rowD))
  | .slen, [.lst ds] => rb (D.rows ds) fun rs => chk (decide (ds.length ≤ 1000000)) (.lst ((isort leLen rs).map rowD))
  | _, _ => .no

/-! ### slots -/
def getV (st : Sl) (i : Nat) : R D := match st[i]? with
  | some (some (.val d)) => .ok d
  | _ => .no
def getB (st : Sl) (i : Nat) : R D := match st[i]? with
  | some (some (.val d)) => .ok d
  | some (some (.brw d)) => .ok d
  | some (some (.own d)) => .ok d
  | _ => .no
mutual
def bindT : Tg → D → Sl → Option Sl
  | .nm i, d, st => if i < st.length then some (st.set i (some (.val d))) else none
  | .tp t, .tup ds, st => bindTs t ds st
  | _, _, _ => none
def bindTs : Tg → List D → Sl → Option Sl
  | .nil, [], st => some st
  | .cons a r, d :: ds, st => (bindT a d st).bind (bindTs r ds)
  | _, _, _ => none
end
/-- the turns of a comprehension -/
def lcGo (t : Tg) (e : Sl → R D) (c : Sl → R Bool) (st : Sl) : List D → R (List D)
  | [] => .ok []
  | x :: xs => match bindT t x st with
    | none => .no
    | some st1 => (c st1).bind fun b => if b then (e st1).bind fun d => (lcGo t e c st xs).bind fun ds => .ok (d :: ds) else lcGo t e c st xs
def seqD : D → R (List D)
  | .lst ds => .ok ds
  | .tup ds => .ok ds
  | _ => .no
def enumD : Nat → List D → List D
  | _, [] => []
  | n, d :: ds => .tup [.int n, d] :: enumD (n + 1) ds
def zipD : List D → List D → List D
  | a :: r, b :: q => .tup [a, b] :: zipD r q
  | _, _ => []
def zipDD : D → D → R (List D)
  | .lst ds, .lst es => .ok (zipD ds es)
  | .tup ds, .tup es => .ok (zipD ds es)
  | _, _ => .no
def rngD (lo : Int) (n : Nat) : List D := (List.range n).map fun (i : Nat) => D.int (lo + i)

/-! ### the evaluator -/
section
variable (G : Pg)
mutual
def ev : Ex → Sl → R D
  | .v i, st => getV st i
  | .b i, st => getB st i
  | .k d, _ => .ok d
  | .bin o x y, st => (ev x st).bind fun a => (ev y st).bind fun b => nx (dBin o a b)
  | .neg x, st => (ev x st).bind fun a => match a with | .int i => .ok (.int (-i)) | _ => .no
  | .nt x, st => (ev x st).bind fun a => match a with | .bl b => .ok (.bl !b) | _ => .no
  | .cmp o x y, st => (ev x st).bind fun a => (ev y st).bind fun b => nx (dCmp o a b)
  | .chn o p x y z, st => (ev x st).bind fun a => (ev y st).bind fun b => (nx (dCmp o a b)).bind fun r => match r with
    | .bl true => (ev z st).bind fun c => nx (dCmp p b c)
    | .bl false => .ok (.bl false)
    | _ => .no
  | .an x y, st => (ev x st).bind fun a => match a with | .bl true => ev y st | .bl false => .ok (.bl false) | _ => .no
  | .orr x y, st => (ev x st).bind fun a => match a with | .bl false => ev y st | .bl true => .ok (.bl true) | _ => .no
  | .ite c x y, st => (evT c st).bind fun b => if b then ev x st else ev y st
  | .tup l, st => (evL l st).bind fun ds => chk (decide (ds.length ≤ 1000000)) (.tup ds)
  | .lst l, st => (evL l st).bind fun ds => chk (decide (ds.length ≤ 1000000)) (.lst ds)
  | .idx x i, st => (ev x st).bind fun a => (ev i st).bind fun b => nx (dIdx a b)
  | .sl x lo hi, st => (ev x st).bind fun a => (if isNo lo then .ok none else (ev lo st).bind dPart).bind fun l => (if isNo hi then .ok none else (ev hi st).bind dPart).bind fun h => nx (dSl a l h)
  | .att x n, st => (ev x st).bind fun a => match a with
    | .ins c fs => (match G.sl c n with
      | some j => rb fs[j]? .ok
      | none => rb (G.pr c n) fun f => nx (G.F f [.ins c fs]))
    | _ => .no
  | .call f l, st => (evL l st).bind fun ds => G.F f ds
  | .meth x n l, st => (ev x st).bind fun a => match a with
    | .ins c fs => rb (G.mt c n) fun f => (evL l st).bind fun ds => G.F f (.ins c fs :: ds)
    | _ => .no
  | .blt f l, st => (evL l st).bind fun ds => nx (dBlt G f ds)
  | .isi x t, st => (ev x st).bind fun a => chk (cOk G.nc a) (.bl (isTy t a))
  | .lc e t s c, st => (evI s st).bind fun xs => (chk (decide (xs.length ≤ 1000000)) ()).bind fun _ => (nx (lcGo t (ev e) (evT c) st xs)).bind fun ds => .ok (.lst ds)
  | .lrg x y, st => (ev x st).bind fun a => (ev y st).bind fun b => match a, b with
    | .int i, .int j => chk (decide (0 ≤ i) && decide (i ≤ 1000000) && decide (0 ≤ j) && decide (j ≤ 1000000)) (.lst (rngD i (j - i).toNat))
    | _, _ => .no
  | .dget x k, st => (ev x st).bind fun a => match a with
    | .dic ks vs => (ev k st).bind fun b => chk (isKey b) ((dGet b ks vs).getD .non)
    | _ => .no
  | .dct l, st => (evL l st).bind fun ds => (chk (decide (ds.length ≤ 30)) ()).bind fun _ => nx (dctD ds [] [])
  | _, _ => .no
def evT : Ex → Sl → R Bool
  | .tan x y, st => (evT x st).bind fun a => if a then evT y st else .ok false
  | .tor x y, st => (evT x st).bind fun a => if a then .ok true else evT y st
  | .tnt x, st => (evT x st).bind fun a => .ok !a
  | .tyes, _ => .ok true
  | .tv x, st => (ev x st).bind dTru
  | _, _ => .no
def evL : Ex → Sl → R (List D)
  | .nil, _ => .ok []
  | .cons x r, st => (ev x st).bind fun a => (evL r st).bind fun ds => .ok (a :: ds)
  | .star x r, st => (ev x st).bind fun a => (seqD a).bind fun es => (evL r st).bind fun ds => .ok (es ++ ds)
  | _, _ => .no
def evI : Ex → Sl → R (List D)
  | .sEnum x, st => (ev x st).bind fun a => (seqD a).bind fun ds => .ok (enumD 0 ds)
  | .sZip x y, st => (ev x st).bind fun a => (ev y st).bind fun b => zipDD a b
  | .sRng x y, st => (ev x st).bind fun a => (ev y st).bind fun b => match a, b with
    | .int i, .int j => chk (decide (-(2 ^ 62) ≤ i) && decide (i < 2 ^ 62) && decide (-(2 ^ 62) ≤ j) && decide (j < 2 ^ 62)) (rngD i (j - i).toNat)
    | _, _ => .no
  | .sSeq x, st => (ev x st).bind seqD
  | _, _ => .no
end
end
end Z

/-! Z2: statements. -/
namespace Z
open PySem
inductive Out where
  | nx (st : Sl) | rt (d : D) | bk (st : Sl) | ct (st : Sl) | ex (x : Xc) (st : Sl) | no
/-- what is made anew by the expression itself -/
def isFr : Ex → Bool
  | .lst _ => true
  | .lc _ _ _ _ => true
  | .dct _ => true
  | .lrg _ _ => true
  | .blt _ _ => true
  | .bin _ _ _ => true
  | _ => false
def isB : Ex → Bool
  | .b _ => true
  | _ => false
/-- on the way out our own things are no longer changed -/
def frzV : Option SV → Option SV
  | some (.own d) => some (.val d)
  | o => o
def frz (st : Sl) : Sl := st.map frzV
def isCont : D → Bool
  | .lst _ => true
  | .dic _ _ => true
  | _ => false
def setO (st : Sl) (i : Nat) (d : D) : Option Sl := if decide (i < st.length) && isCont d then some (st.set i (some (.own d))) else none
def parT : List (Nat × Bool) → List D → Sl → Option Sl
  | [], [], st => some st
  | (i, true) :: r, d :: ds, st => (setO st i d).bind (parT r ds)
  | (i, false) :: r, d :: ds, st => if i < st.length then parT r ds (st.set i (some (.val d))) else none
  | _, _, _ => none
/-- the flags and the expressions fit -/
def parOk : List (Nat × Bool) → Ex → Bool
  | [], .nil => true
  | (_, b) :: r, .cons x q => (!b || isFr x) && !isB x && parOk r q
  | _, _ => false
def forGo (t : Tg) (body : Sl → Out) : List D → Sl → Out
  | [], st => .nx st
  | x :: xs, st => match bindT t x st with
    | none => .no
    | some st1 => match body st1 with
      | .nx st2 => forGo t body xs st2
      | .ct st2 => forGo t body xs st2
      | .bk st2 => .nx st2
      | o => o
inductive Loop (c : Sl → R Bool) (b : Sl → Out) : Sl → Out → Prop
  | stop {st} : c st = .ok false → Loop c b st (.nx st)
  | nx {st st' o} : c st = .ok true → b st = .nx st' → Loop c b st' o → Loop c b st o
  | ct {st st' o} : c st = .ok true → b st = .ct st' → Loop c b st' o → Loop c b st o
  | bk {st st'} : c st = .ok true → b st = .bk st' → Loop c b st (.nx st')
  | rt {st d} : c st = .ok true → b st = .rt d → Loop c b st (.rt d)
theorem Loop.one {c : Sl → R Bool} {b : Sl → Out} {st : Sl} {o o' : Out} (h : Loop c b st o) : Loop c b st o' → o = o' := by
  induction h with
  | stop h1 => intro h; cases h <;> simp_all
  | nx h1 h2 _ ih => intro h; cases h <;> simp_all
  | ct h1 h2 _ ih => intro h; cases h <;> simp_all
  | bk h1 h2 => intro h; cases h <;> simp_all
  | rt h1 h2 => intro h; cases h <;> simp_all
open Classical in
noncomputable def whileD (c : Sl → R Bool) (b : Sl → Out) (st : Sl) : Out := if h : ∃ o, Loop c b st o then Classical.choose h else .no
theorem whileD_eq {c : Sl → R Bool} {b : Sl → Out} {st : Sl} {o : Out} (h : Loop c b st o) : whileD c b st = o := by
  unfold whileD
  rw [dif_pos ⟨o, h⟩]
  exact (Classical.choose_spec (⟨o, h⟩ : ∃ o, Loop c b st o)).one h
theorem whileD_loop {c : Sl → R Bool} {b : Sl → Out} {st : Sl} (h : whileD c b st ≠ .no) : Loop c b st (whileD c b st) := by
  unfold whileD at h ⊢
  by_cases q : ∃ o, Loop c b st o
  · rw [dif_pos q]; exact Classical.choose_spec q
  · rw [dif_neg q] at h; exact absurd rfl h
def R.out {α : Type} (r : R α) (st : Sl) (f : α → Out) : Out := match r with
  | .ok a => f a
  | .ex x => .ex x st
  | .no => .no
def Out.of : Option Sl → Out
  | some st => .nx st
  | none => .no
section
variable (G : Pg)
noncomputable def evS : Sx → Sl → Out
  | .nil, st => .nx st
  | .seq s r, st => match evS s st with
    | .nx st1 => evS r st1
    | o => o
  | .asg t e, st => if isB e then .no else (ev G e st).out st fun d => .of (bindT t d st)
  | .asgO i e, st => if isFr e then (ev G e st).out st fun d => .of (setO st i d) else .no
  | .par l e, st => if parOk l e then (evL G e st).out st fun ds => .of (parT l ds st) else .no
  | .drop e, st => (ev G e st).out st fun _ => .nx st
  | .ret e, st => if isB e then .no else (ev G e (frz st)).out st .rt
  | .retN, _ => .rt .non
  | .iff c a b, st => (evT G c st).out st fun d => if d then evS a st else evS b st
  | .forr t s a, st => (evI G s st).out st fun xs => forGo t (evS a) xs st
  | .whil c a, st => whileD (evT G c) (evS a) st
  | .pass, st => .nx st
  | .rais c l, st => (evL G l st).out st fun ds => .ex ⟨c, ds⟩ st
  | .brk, st => .bk st
  | .cnt, st => .ct st
  | .app i e, st => match st[i]? with
    | some (some (.own (.lst ds))) => if isB e then .no else (ev G e st).out st fun d => if ds.length < 1000000 then .nx (st.set i (some (.own (.lst (ds ++ [d]))))) else .no
    | _ => .no
  | .ext i e, st => match st[i]? with
    | some (some (.own (.lst ds))) => if isB e then .no else (ev G e st).out st fun d => match d with
      | .lst es => if ds.length + es.length ≤ 1000000 then .nx (st.set i (some (.own (.lst (ds ++ es))))) else .no
      | _ => .no
    | _ => .no
  | .pop t i l, st => match st[i]?, l with
    | some (some (.own (.lst ds))), .nil => (match ds[ds.length - 1]? with
      | some d => .of (bindT t d (st.set i (some (.own (.lst ds.dropLast)))))
      | none => .no)
    | some (some (.own (.lst ds))), .cons (.k (.int 0)) .nil => (match ds with
      | d :: r => .of (bindT t d (st.set i (some (.own (.lst r)))))
      | [] => .no)
    | _, _ => .no
  | .set i k e, st => match st[i]? with
    | some (some (.own (.lst ds))) => if isB e then .no else (ev G e st).out st fun d => (ev G k st).out st fun x => match x with
      | .int j => (match L2.ixN ds.length j with
        | some n => .nx (st.set i (some (.own (.lst (ds.set n d)))))
        | none => .no)
      | _ => .no
    | some (some (.own (.dic ks vs))) => if isB e then .no else (ev G e st).out st fun d => (ev G k st).out st fun x =>
      if isKey x && decide (ks.length < 1000000) then .nx (st.set i (some (.own (.dic (dPut x d ks vs).1 (dPut x d ks vs).2)))) else .no
    | _ => .no
  | .fld i n e, st => match st[i]? with
    | some (some (.slf c fs)) => if isB e then .no else (ev G e st).out st fun d => match G.sl c n with
      | some j => if j < fs.length then .nx (st.set i (some (.slf c (fs.set j (some d))))) else .no
      | none => .no
    | _ => .no
  | .nev, _ => .no
  | .frz i, st => match st[i]? with
    | some (some (.own d)) => .nx (st.set i (some (.val d)))
    | _ => .no
end
/-- a def's body at its arguments; N slots; which of them are borrowed -/
def argS (bs : List Bool) (ds : List D) (n : Nat) : Sl := (List.zipWith (fun b d => some (if b then SV.brw d else SV.val d)) bs ds) ++ List.replicate (n - ds.length) none
noncomputable def evB (G : Pg) (body : Sx) (bs : List Bool) (n : Nat) (ds : List D) : R D := if bs.length = ds.length then (match evS G body (argS bs ds n) with
    | .nx _ => .ok .non
    | .rt d => .ok d
    | .ex x _ => .ex x
    | _ => .no) else .no
end Z

/-! Z3: what a value stands for in a heap. -/
namespace Z
open PySem PySem.Spec PyProof.Rows L2
def keyD : Key → D
  | .inl i => .int i
  | .inr x => .str x
section
variable (K : PySem.W.Frag) (cl : Nat → Addr) (P : Addr → Prop) (H : Hp)
def TupAt (a : Addr) (xs : List V) : Prop := (Rd H a (.tup xs) ∧ ¬ P a) ∨
  ∃ (o : Obj) (its : Array Value) (n : Nat), K.lookup a = some o ∧ o.cls = .type "tuple" ∧ o.data = .seq its n ∧ its.size ≤ sizeLine ∧ Vals xs its.toList
def LstAt (a : Addr) (xs : List V) : Prop := Rd H a (.lst xs) ∧ ¬ P a
mutual
inductive Rep : V → D → Prop
  | non : Rep .non .non
  | bl (b : Bool) : Rep (.bl b) (.bl b)
  | int (i : Int) : Rep (.int i) (.int i)
  | str (x : Str) : Rep (.str x) (.str x)
  | tup {a : Addr} {xs : List V} {ds : List D} : TupAt K P H a xs → Reps xs ds → Rep (.ref a) (.tup ds)
  | lst {a : Addr} {xs : List V} {ds : List D} : LstAt P H a xs → Reps xs ds → Rep (.ref a) (.lst ds)
  | dic {a : Addr} {kvs : List (Key × V)} {ks vs : List D} : Rd H a (.dK kvs) → ¬ P a → (kvs.map (·.1)).Nodup → ks = kvs.map (fun p => keyD p.1) → Reps (kvs.map (·.2)) vs → Rep (.ref a) (.dic ks vs)
  | ins {a dx : Addr} {c : Nat} {vs : List V} {fs : List D} : SlX.Slt H a (cl c) dx (vs.map some) → ¬ P a → ¬ P dx → vs ≠ [] → Reps vs fs → Rep (.ref a) (.ins c fs)
inductive Reps : List V → List D → Prop
  | nil : Reps [] []
  | cons {v : V} {vs : List V} {d : D} {ds : List D} : Rep v d → Reps vs ds → Reps (v :: vs) (d :: ds)
end
/-- a container that we (or the caller) may change -/
def OwnAt (a : Addr) : D → Prop
  | .lst ds => ∃ xs, H a = some (.lst xs) ∧ Reps K cl P H xs ds
  | .dic ks vs => ∃ kvs, H a = some (.dK kvs) ∧ (kvs.map (·.1)).Nodup ∧ ks = kvs.map (fun p => keyD p.1) ∧ Reps K cl P H (kvs.map (·.2)) vs
  | _ => False
def RepB (v : V) (d : D) : Prop := Rep K cl P H v d ∨ ∃ a, v = .ref a ∧ OwnAt K cl P H a d
end
section
variable {K : PySem.W.Frag} {cl : Nat → Addr} {P P' : Addr → Prop} {H H' : Hp}
/-- no table of code objects: those may grow -/
def NT (o : HO) : Prop := ∀ ps, o ≠ .tbl ps
theorem rd_mono {a : Addr} {u : HO} (h : ∀ o, NT o → H a = some o → H' a = some o) (r : Rd H a u) (n : NT u := by exact (fun _ z => nomatch z)) : Rd H' a u := by
  rcases r with r | ⟨o, r⟩
  · exact .inl (h _ n r)
  · exact .inr ⟨o, h _ (fun _ z => nomatch z) r⟩
theorem rd_dom {a : Addr} {u : HO} (r : Rd H a u) : H a ≠ none := by
  rcases r with r | ⟨o, r⟩ <;> (rw [r]; exact fun z => nomatch z)
theorem TupAt.mono (h : ∀ b o, ¬ P b → NT o → H b = some o → H' b = some o) {a : Addr} {xs : List V} (t : TupAt K P H a xs) : TupAt K P H' a xs := by
  rcases t with ⟨r, n⟩ | t
  · exact .inl ⟨rd_mono (fun o t e => h a o n t e) r, n⟩
  · exact .inr t
theorem LstAt.mono (h : ∀ b o, ¬ P b → NT o → H b = some o → H' b = some o) {a : Addr} {xs : List V} (t : LstAt P H a xs) : LstAt P H' a xs :=
  ⟨rd_mono (fun o n e => h a o t.2 n e) t.1, t.2⟩
theorem slt_mono {a C dx : Addr} {vs : List (Option V)} (h1 : ∀ o, NT o → H a = some o → H' a = some o) (h2 : ∀ o, NT o → H dx = some o → H' dx = some o) (r : SlX.Slt H a C dx vs) : SlX.Slt H' a C dx vs := by
  rcases r with ⟨r, e⟩ | ⟨r, q⟩
  · exact .inl ⟨h1 _ (fun _ z => nomatch z) r, e⟩
  · exact .inr ⟨h1 _ (fun _ z => by unfold SlX.SlO at z; cases z) r, h2 _ (fun _ z => nomatch z) q⟩
mutual
theorem Rep.mono (h : ∀ b o, ¬ P b → NT o → H b = some o → H' b = some o) : ∀ {v : V} {d : D}, Rep K cl P H v d → Rep K cl P H' v d
  | _, _, .non => .non
  | _, _, .bl b => .bl b
  | _, _, .int i => .int i
  | _, _, .str x => .str x
  | _, _, .tup t r => .tup (t.mono h) (r.mono h)
  | _, _, .lst t r => .lst (t.mono h) (r.mono h)
  | _, _, .dic t n d e r => .dic (rd_mono (fun o k q => h _ o n k q) t) n d e (r.mono h)
  | _, _, .ins t n m z r => .ins (slt_mono (fun o k q => h _ o n k q) (fun o k q => h _ o m k q) t) n m z (r.mono h)
theorem Reps.mono (h : ∀ b o, ¬ P b → NT o → H b = some o → H' b = some o) : ∀ {v : List V} {d : List D}, Reps K cl P H v d → Reps K cl P H' v d
  | _, _, .nil => .nil
  | _, _, .cons a r => .cons (a.mono h) (r.mono h)
end
theorem TupAt.anti (h : ∀ a, P' a → P a) {a : Addr} {xs : List V} (t : TupAt K P H a xs) : TupAt K P' H a xs := by
  rcases t with ⟨r, n⟩ | t
  · exact .inl ⟨r, fun z => n (h a z)⟩
  · exact .inr t
theorem LstAt.anti (h : ∀ a, P' a → P a) {a : Addr} {xs : List V} (t : LstAt P H a xs) : LstAt P' H a xs := ⟨t.1, fun z => t.2 (h a z)⟩
mutual
theorem Rep.anti (h : ∀ a, P' a → P a) : ∀ {v : V} {d : D}, Rep K cl P H v d → Rep K cl P' H v d
  | _, _, .non => .non
  | _, _, .bl b => .bl b
  | _, _, .int i => .int i
  | _, _, .str x => .str x
  | _, _, .tup t r => .tup (t.anti h) (r.anti h)
  | _, _, .lst t r => .lst (t.anti h) (r.anti h)
  | _, _, .dic t n d e r => .dic t (fun z => n (h _ z)) d e (r.anti h)
  | _, _, .ins t n m z r => .ins t (fun z => n (h _ z)) (fun z => m (h _ z)) z (r.anti h)
theorem Reps.anti (h : ∀ a, P' a → P a) : ∀ {v : List V} {d : List D}, Reps K cl P H v d → Reps K cl P' H v d
  | _, _, .nil => .nil
  | _, _, .cons a r => .cons (a.anti h) (r.anti h)
end
/-- addresses that are not in the heap yet may be forbidden -/
theorem TupAt.widen (h : ∀ a, P' a → P a ∨ H a = none) {a : Addr} {xs : List V} (t : TupAt K P H a xs) : TupAt K P' H a xs := by
  rcases t with ⟨r, n⟩ | t
  · exact .inl ⟨r, fun z => (h a z).elim n (rd_dom r)⟩
  · exact .inr t
theorem LstAt.widen (h : ∀ a, P' a → P a ∨ H a = none) {a : Addr} {xs : List V} (t : LstAt P H a xs) : LstAt P' H a xs := ⟨t.1, fun z => (h a z).elim t.2 (rd_dom t.1)⟩
theorem slt_dom {a C dx : Addr} {vs : List (Option V)} (r : SlX.Slt H a C dx vs) (h : vs ≠ []) : H a ≠ none ∧ H dx ≠ none := by
  rcases r with ⟨_, e⟩ | ⟨r, q⟩
  · exact absurd e h
  · rw [r, q]; exact ⟨(fun z => nomatch z), fun z => nomatch z⟩
theorem map_ne {vs : List V} (h : vs ≠ []) : vs.map some ≠ [] := by
  cases vs with
  | nil => exact absurd rfl h
  | cons a r => exact fun z => nomatch z
mutual
theorem Rep.widen (h : ∀ a, P' a → P a ∨ H a = none) : ∀ {v : V} {d : D}, Rep K cl P H v d → Rep K cl P' H v d
  | _, _, .non => .non
  | _, _, .bl b => .bl b
  | _, _, .int i => .int i
  | _, _, .str x => .str x
  | _, _, .tup t r => .tup (t.widen h) (r.widen h)
  | _, _, .lst t r => .lst (t.widen h) (r.widen h)
  | _, _, .dic t n d e r => .dic t (fun z => (h _ z).elim n (rd_dom t)) d e (r.widen h)
  | _, _, .ins t n m z r => .ins t (fun y => (h _ y).elim n (slt_dom t (map_ne z)).1) (fun y => (h _ y).elim m (slt_dom t (map_ne z)).2) z (r.widen h)
theorem Reps.widen (h : ∀ a, P' a → P a ∨ H a = none) : ∀ {v : List V} {d : List D}, Reps K cl P H v d → Reps K cl P' H v d
  | _, _, .nil => .nil
  | _, _, .cons a r => .cons (a.widen h) (r.widen h)
end
theorem Reps.length : ∀ {v : List V} {d : List D}, Reps K cl P H v d → v.length = d.length
  | _, _, .nil => rfl
  | _, _, .cons _ r => by rw [List.length_cons, List.length_cons, r.length]
theorem Reps.append : ∀ {v w : List V} {d e : List D}, Reps K cl P H v d → Reps K cl P H w e → Reps K cl P H (v ++ w) (d ++ e)
  | _, _, _, _, .nil, q => q
  | _, _, _, _, .cons a r, q => .cons a (r.append q)
theorem Reps.get : ∀ {v : List V} {d : List D} {i : Nat} {x : D}, Reps K cl P H v d → d[i]? = some x → ∃ u, v[i]? = some u ∧ Rep K cl P H u x
  | _, _, _, _, .nil, e => by simp at e
  | _, _, 0, _, .cons a r, e => by simp at e; subst e; exact ⟨_, rfl, a⟩
  | _, _, i + 1, _, .cons a r, e => by
    obtain ⟨u, h1, h2⟩ := r.get (i := i) (by simpa using e)
    exact ⟨u, by simpa using h1, h2⟩
theorem Reps.getV : ∀ {v : List V} {d : List D} {i : Nat} {u : V}, Reps K cl P H v d → v[i]? = some u → ∃ x, d[i]? = some x ∧ Rep K cl P H u x
  | _, _, _, _, .nil, e => by simp at e
  | _, _, 0, _, .cons a r, e => by simp at e; subst e; exact ⟨_, rfl, a⟩
  | _, _, i + 1, _, .cons a r, e => by
    obtain ⟨u, h1, h2⟩ := r.getV (i := i) (by simpa using e)
    exact ⟨u, by simpa using h1, h2⟩
theorem Reps.take : ∀ {v : List V} {d : List D} (n : Nat), Reps K cl P H v d → Reps K cl P H (v.take n) (d.take n)
  | _, _, 0, _ => .nil
  | _, _, _ + 1, .nil => .nil
  | _, _, n + 1, .cons a r => .cons a (r.take n)
theorem Reps.drop : ∀ {v : List V} {d : List D} (n : Nat), Reps K cl P H v d → Reps K cl P H (v.drop n) (d.drop n)
  | _, _, 0, r => r
  | _, _, _ + 1, .nil => .nil
  | _, _, n + 1, .cons a r => r.drop n
theorem Reps.set : ∀ {v : List V} {d : List D} (i : Nat) {u : V} {x : D}, Reps K cl P H v d → Rep K cl P H u x → Reps K cl P H (v.set i u) (d.set i x)
  | _, _, _, _, _, .nil, _ => .nil
  | _, _, 0, _, _, .cons a r, q => .cons q r
  | _, _, i + 1, _, _, .cons a r, q => .cons a (r.set i q)
theorem Reps.rep {v : List V} {d : List D} (r : Reps K cl P H v d) : ∀ n : Nat, Reps K cl P H (List.replicate n v).flatten (List.replicate n d).flatten
  | 0 => .nil
  | n + 1 => by
    rw [List.replicate_succ, List.replicate_succ, List.flatten_cons, List.flatten_cons]
    exact r.append (r.rep n)
theorem Reps.dropLast {v : List V} {d : List D} (r : Reps K cl P H v d) : Reps K cl P H v.dropLast d.dropLast := by
  rw [List.dropLast_eq_take, List.dropLast_eq_take, r.length]
  exact r.take _
theorem Reps.ints : ∀ {v : List V} {d : List D} {ns : List Int}, Reps K cl P H v d → D.ints d = some ns → v = ns.map V.int
  | _, _, ns, .nil, e => by cases e; rfl
  | _, _, ns, .cons (d := .int i) a r, e => by
    unfold D.ints at e
    obtain ⟨ms, h1, h2⟩ := Option.map_eq_some_iff.mp e
    subst h2
    cases a
    rw [List.map_cons, r.ints h1]
  | _, _, _, .cons (d := .non) a r, e => by cases e
  | _, _, _, .cons (d := .bl _) a r, e => by cases e
  | _, _, _, .cons (d := .str _) a r, e => by cases e
  | _, _, _, .cons (d := .tup _) a r, e => by cases e
  | _, _, _, .cons (d := .lst _) a r, e => by cases e
  | _, _, _, .cons (d := .dic _ _) a r, e => by cases e
  | _, _, _, .cons (d := .ins _ _) a r, e => by cases e
theorem Reps.bls : ∀ {v : List V} {d : List D} {ns : List Bool}, Reps K cl P H v d → D.bls d = some ns → v = ns.map V.bl
  | _, _, ns, .nil, e => by cases e; rfl
  | _, _, ns, .cons (d := .bl i) a r, e => by
    unfold D.bls at e
    obtain ⟨ms, h1, h2⟩ := Option.map_eq_some_iff.mp e
    subst h2
    cases a
    rw [List.map_cons, r.bls h1]
  | _, _, _, .cons (d := .non) a r, e => by cases e
  | _, _, _, .cons (d := .int _) a r, e => by cases e
  | _, _, _, .cons (d := .str _) a r, e => by cases e
  | _, _, _, .cons (d := .tup _) a r, e => by cases e
  | _, _, _, .cons (d := .lst _) a r, e => by cases e
  | _, _, _, .cons (d := .dic _ _) a r, e => by cases e
  | _, _, _, .cons (d := .ins _ _) a r, e => by cases e
theorem reps_ints : ∀ ns : List Int, Reps K cl P H (ns.map V.int) (ns.map D.int)
  | [] => .nil
  | n :: r => .cons (.int n) (reps_ints r)
theorem TupAt.sq {a : Addr} {xs : List V} (t : TupAt K P H a xs) : SqT K H a xs := by
  rcases t with ⟨r, _⟩ | t
  · exact .inl r
  · exact .inr t
theorem LstAt.sq {a : Addr} {xs : List V} (t : LstAt P H a xs) : SqL K H a xs := .inl t.1
theorem RepB.of {v : V} {d : D} (r : Rep K cl P H v d) : RepB K cl P H v d := .inl r
/-- a list, borrowed or not -/
theorem RepB.lst {v : V} {ds : List D} (r : RepB K cl P H v (.lst ds)) : ∃ a xs, v = .ref a ∧ Rd H a (.lst xs) ∧ Reps K cl P H xs ds := by
  rcases r with r | ⟨a, e, xs, h1, h2⟩
  · cases r with
    | lst t r => exact ⟨_, _, rfl, t.1, r⟩
  · exact ⟨a, xs, e, .inl h1, h2⟩
theorem RepB.tup {v : V} {ds : List D} (r : RepB K cl P H v (.tup ds)) : ∃ a xs, v = .ref a ∧ TupAt K P H a xs ∧ Reps K cl P H xs ds := by
  rcases r with r | ⟨a, e, r⟩
  · cases r with
    | tup t r => exact ⟨_, _, rfl, t, r⟩
  · cases r
theorem RepB.dic {v : V} {ks vs : List D} (r : RepB K cl P H v (.dic ks vs)) : ∃ a kvs, v = .ref a ∧ Rd H a (.dK kvs) ∧ (kvs.map (·.1)).Nodup ∧ ks = kvs.map (fun p => keyD p.1) ∧ Reps K cl P H (kvs.map (·.2)) vs := by
  rcases r with r | ⟨a, e, kvs, h1, h2, h3, h4⟩
  · cases r with
    | dic t n d e r => exact ⟨_, _, rfl, t, d, e, r⟩
  · exact ⟨a, kvs, e, .inl h1, h2, h3, h4⟩
theorem RepB.ins {v : V} {c : Nat} {fs : List D} (r : RepB K cl P H v (.ins c fs)) : ∃ a dx vs, v = .ref a ∧ SlX.Slt H a (cl c) dx (vs.map some) ∧ Reps K cl P H vs fs := by
  rcases r with r | ⟨a, e, r⟩
  · cases r with
    | ins t n m z r => exact ⟨_, _, _, rfl, t, r⟩
  · cases r
theorem RepB.flat {v : V} {d : D} (r : RepB K cl P H v d) (h : isCont d = false) : Rep K cl P H v d := by
  rcases r with r | ⟨a, e, r⟩
  · exact r
  · cases d <;> first | exact False.elim r | cases h
theorem RepB.int {v : V} {i : Int} (r : RepB K cl P H v (.int i)) : v = .int i := by cases r.flat rfl; rfl
theorem RepB.bl {v : V} {i : Bool} (r : RepB K cl P H v (.bl i)) : v = .bl i := by cases r.flat rfl; rfl
theorem RepB.str {v : V} {i : Str} (r : RepB K cl P H v (.str i)) : v = .str i := by cases r.flat rfl; rfl
theorem RepB.non {v : V} (r : RepB K cl P H v .non) : v = .non := by cases r.flat rfl; rfl
theorem OwnAt.mono (h : ∀ b o, ¬ P b → NT o → H b = some o → H' b = some o) {a : Addr} {d : D} (ha : ∀ o, NT o → H a = some o → H' a = some o) (r : OwnAt K cl P H a d) : OwnAt K cl P H' a d := by
  cases d with
  | lst ds => obtain ⟨xs, h1, h2⟩ := r; exact ⟨xs, ha _ (fun _ z => nomatch z) h1, h2.mono h⟩
  | dic ks vs => obtain ⟨kvs, h1, h2, h3, h4⟩ := r; exact ⟨kvs, ha _ (fun _ z => nomatch z) h1, h2, h3, h4.mono h⟩
  | _ => cases r
theorem OwnAt.anti (h : ∀ a, P' a → P a) {a : Addr} {d : D} (r : OwnAt K cl P H a d) : OwnAt K cl P' H a d := by
  cases d with
  | lst ds => obtain ⟨xs, h1, h2⟩ := r; exact ⟨xs, h1, h2.anti h⟩
  | dic ks vs => obtain ⟨kvs, h1, h2, h3, h4⟩ := r; exact ⟨kvs, h1, h2, h3, h4.anti h⟩
  | _ => cases r
theorem OwnAt.widen (h : ∀ a, P' a → P a ∨ H a = none) {a : Addr} {d : D} (r : OwnAt K cl P H a d) : OwnAt K cl P' H a d := by
  cases d with
  | lst ds => obtain ⟨xs, h1, h2⟩ := r; exact ⟨xs, h1, h2.widen h⟩
  | dic ks vs => obtain ⟨kvs, h1, h2, h3, h4⟩ := r; exact ⟨kvs, h1, h2, h3, h4.widen h⟩
  | _ => cases r
theorem OwnAt.rep {a : Addr} {d : D} (r : OwnAt K cl P H a d) (n : ¬ P a) : Rep K cl P H (.ref a) d := by
  cases d with
  | lst ds => obtain ⟨xs, h1, h2⟩ := r; exact .lst ⟨.inl h1, n⟩ h2
  | dic ks vs => obtain ⟨kvs, h1, h2, h3, h4⟩ := r; exact .dic (.inl h1) n h2 h3 h4
  | _ => cases r
theorem OwnAt.dom {a : Addr} {d : D} (r : OwnAt K cl P H a d) : H a ≠ none := by
  cases d with
  | lst ds => obtain ⟨xs, h1, h2⟩ := r; rw [h1]; exact fun z => nomatch z
  | dic ks vs => obtain ⟨kvs, h1, h2, h3, h4⟩ := r; rw [h1]; exact fun z => nomatch z
  | _ => cases r
theorem RepB.anti (h : ∀ a, P' a → P a) {v : V} {d : D} (r : RepB K cl P H v d) : RepB K cl P' H v d := by
  rcases r with r | ⟨a, e, r⟩
  · exact .inl (r.anti h)
  · exact .inr ⟨a, e, r.anti h⟩
theorem Rep.same0 (h : Same H H') {v : V} {d : D} (r : Rep K cl P H v d) : Rep K cl P H' v d := r.mono fun b o _ _ q => h b o q
theorem Reps.same0 (h : Same H H') {v : List V} {d : List D} (r : Reps K cl P H v d) : Reps K cl P H' v d := r.mono fun b o _ _ q => h b o q
theorem same_upd0 {p : Addr} {o : HO} (h : H p = none) : Same H (upd H p o) := fun b x e => by
  rw [upd_ne (ne_of_none e h)]
  exact e
end
end Z

/-! Z4: the operations on data are what Python's do. -/
namespace Z
open PySem PySem.Spec PyProof.Rows L2
section
variable {K : PySem.W.Frag} {cl : Nat → Addr} {P : Addr → Prop} {H H' : Hp}
theorem line_mil {n : Nat} (h : n ≤ 1000000) : n ≤ sizeLine := by rw [sizeLine_eq]; omega
theorem line_lt {n : Nat} (h : n < 1000000) : n < sizeLine := by rw [sizeLine_eq]; omega
/-- a container made just now -/
def Fr (K : PySem.W.Frag) (cl : Nat → Addr) (P : Addr → Prop) (H H' : Hp) (v : V) (d : D) : Prop := ∃ p, v = .ref p ∧ H p = none ∧ OwnAt K cl (fun a => P a ∨ a = p) H' p d
/-- the answer of an operation -/
def Ans (K : PySem.W.Frag) (cl : Nat → Addr) (P : Addr → Prop) (H H' : Hp) (v : V) (d : D) : Prop := Rep K cl P H' v d ∧ (isCont d = true → Fr K cl P H H' v d)
def DomP (P : Addr → Prop) (H : Hp) : Prop := ∀ a, P a → H a ≠ none
theorem DomP.not (h : DomP P H) {p : Addr} (e : H p = none) : ¬ P p := fun z => h p z e
theorem DomP.same0 (h : DomP P H) (s : Same H H') : DomP P H' := fun a z e => h a z (s.free e)
theorem Ans.of {v : V} {d : D} (r : Rep K cl P H' v d) (h : isCont d = false) : Ans K cl P H H' v d := ⟨r, fun z => by rw [h] at z; cases z⟩
/-- a new list -/
theorem ans_lst (hd : DomP P H) {p : Addr} {xs : List V} {ds : List D} (e : H p = none) (r : Reps K cl P H xs ds) : Ans K cl P H (upd H p (.lst xs)) (.ref p) (.lst ds) := by
  have s : Same H (upd H p (.lst xs)) := same_upd0 e
  have o : OwnAt K cl (fun a => P a ∨ a = p) (upd H p (.lst xs)) p (.lst ds) := ⟨xs, upd_same, (r.widen fun a z => z.imp id fun q => by rw [q]; exact e).same0 s⟩
  exact ⟨(o.anti fun a z => .inl z).rep (hd.not e), fun _ => ⟨p, rfl, e, o⟩⟩
theorem ans_tup (hd : DomP P H) {p : Addr} {xs : List V} {ds : List D} (e : H p = none) (r : Reps K cl P H xs ds) : Ans K cl P H (upd H p (.tup xs)) (.ref p) (.tup ds) :=
  .of (.tup (.inl ⟨.inl upd_same, hd.not e⟩) (r.same0 (same_upd0 e))) rfl
theorem Reps.nil_of {xs : List V} (r : Reps K cl P H xs []) : xs = [] := by cases r; rfl
theorem Reps.nil_iff {xs : List V} {ds : List D} (r : Reps K cl P H xs ds) : xs = [] ↔ ds = [] := by cases r <;> simp
end
/-- one step's question: what comes back stands for d -/
def Bk (K : PySem.W.Frag) (cl : Nat → Addr) (P : Addr → Prop) (H : Hp) (Q : VK) (d : D) : Prop := ∀ v H', Same H H' → Ans K cl P H H' v d → Q v H'
def opOf : Bo → Operator
  | .add => .Add | .sub => .Sub | .mul => .Mult | .fdiv => .FloorDiv | .mod => .Mod
def rBin (K : PySem.W.Frag) (cl : Nat → Addr) (o : Bo) : R2 := fun x y H Q => ∃ P dx dy d, DomP P H ∧ RepB K cl P H x dx ∧ RepB K cl P H y dy ∧ dBin o dx dy = .ok d ∧ Bk K cl P H Q d
section
variable {X : Cx} {cl : Nat → Addr}
theorem inv_lst {pins : List (Addr × Obj)} {σ : L2.St} {H : Hp} {s : Shared} {a : Addr} {xs : List V} (I : Inv X pins σ H s) (r : Rd H a (.lst xs)) :
    xs.length ≤ sizeLine ∧ ∃ (its : List Value) (n : Nat), Vals xs its ∧ s.heap.get? a = some { cls := .type "list", data := .seq its.toArray n } := r.ok I.hok
/-- list + list -/
theorem catL {pins : List (Addr × Obj)} {σ : L2.St} {H : Hp} {s : Shared} {a b : Addr} {xs ys : List V} {Q : VK} (I : Inv X pins σ H s) (ra : Rd H a (.lst xs)) (rb : Rd H b (.lst ys)) (hz : xs.length + ys.length ≤ sizeLine)
    (q : ∀ p, H p = none → Q (.ref p) (upd H p (.lst (xs ++ ys)))) : wpAny (model X.prog X.w) X.A (binaryOp .Add (.ref a) (.ref b)) (EP X pins σ Q) X.xe s := by
  obtain ⟨_, i1, n1, r1, e1⟩ := inv_lst I ra
  obtain ⟨_, i2, n2, r2, e2⟩ := inv_lst I rb
  have l1 := r1.length
  have l2 := r2.length
  refine PySem.P.add_list e1 e2 ?_ (by simp only [List.size_toArray]; omega)
  rw [show i1.toArray ++ i2.toArray = (i1 ++ i2).toArray from by simp]
  exact ⟨.ref _, _, I.lnew (t' := s.toks) (r1.append r2) (by simp only [List.length_append]; exact hz), rfl, q _ I.fresh⟩
/-- list * int -/
theorem repL {pins : List (Addr × Obj)} {σ : L2.St} {H : Hp} {s : Shared} {a : Addr} {xs : List V} {k : Int} {t : Tok} {Q : VK} (I : Inv X pins σ H s) (ra : Rd H a (.lst xs)) (h1 : -(2 ^ 63) ≤ k) (h2 : k < 2 ^ 63) (hz : xs.length * k.toNat ≤ sizeLine)
    (q : ∀ p, H p = none → Q (.ref p) (upd H p (.lst (List.replicate k.toNat xs).flatten))) : wpAny (model X.prog X.w) X.A (binaryOp .Mult (.ref a) (.int k t)) (EP X pins σ Q) X.xe s := by
  obtain ⟨_, its, n, r, e⟩ := inv_lst I ra
  have hl := r.length
  have hlen : its.toArray.size * k.toNat ≤ sizeLine := by
    simp only [List.size_toArray]
    rw [← hl]
    exact hz
  have hcap : ¬ its.toArray.size * k.toNat > (2 ^ 63 - 1) / 8 := fun z => by
    have b : (sizeLine : Nat) ≤ (2 ^ 63 - 1) / 8 := by decide
    omega
  have hfit : ¬ (!Builtin.List.listFitsIndex k) = true := by simp [fitsIndex_both h1 h2]
  have hlong : ¬ Builtin.List.listTooLong (its.toArray.size * k.toNat) = true := by rw [notLongL hlen]; simp
  have f0 : ∀ m : Nat, List.foldl (fun x1 x2 => x1 ++ x2) #[] (List.replicate m its.toArray) = (List.replicate m its).flatten.toArray := fun m => by
    simpa using foldl_rep its m []
  have hnew : List.foldl (fun x1 x2 => x1 ++ x2) #[] (List.replicate (if its.toArray.isEmpty = true then 0 else k.toNat) its.toArray) = (List.replicate k.toNat its).flatten.toArray := by
    rw [f0]
    cases its with
    | nil => simp
    | cons a r' => rw [if_neg (by simp)]
  refine wpAny_binaryOp_repeat_ref (T := "list") (U := "int") (by decide) ⟨_, e, rfl⟩ (fun s' => typeIs_int s' k t) noFill_list_mul F.fills_int_mul F.slot_int_rmul repeat_list F.slot_int_index.lookup ?_
  refine call_meets F.slot_int_rmul (typeIs_int s k t) F.entry_int_rmul (F.args_int_rmul_2 _ _) (int___rmul___int_list k t a its.toArray n) ⟨e, rfl, ⟨_, e, rfl⟩, ?_⟩
  refine call_meets F.slot_list_mul ⟨_, e, rfl⟩ F.entry_list_mul (F.args_list_mul_2 _ _) (AutoListH.list___mul___list_int_3 a its.toArray n k t hfit hcap hlong) ⟨e, ?_⟩
  rw [hnew]
  refine ⟨.ref _, _, I.lnew (t' := s.toks) (r.rep k.toNat) ?_, rfl, q _ I.fresh⟩
  rw [PyProof.Rows.lm_len_rep_flat, Nat.mul_comm]
  exact hz
theorem bin_ok (o : Bo) : OpR X (binaryOp (opOf o)) (rBin X.K cl o) := by
  intro pins s σ H x y v u Q I rx ry h
  obtain ⟨P, dx, dy, d, hd, hx, hy, e, q⟩ := h
  have fin : ∀ i : Int, d = .int i → Q (.int i) H := fun i z => q _ _ (Same.refl H) (by subst z; exact .of (.int i) rfl)
  cases o with
  | add =>
    cases dx with
    | int i =>
      cases dy with
      | int j => cases e; cases hx.int; cases hy.int; exact op_add pins s σ H _ _ v u Q I rx ry ⟨i, j, rfl, rfl, fin _ rfl⟩
      | _ => cases e
    | tup as =>
      cases dy with
      | tup bs =>
        obtain ⟨hl, rfl⟩ := chk_ok e
        obtain ⟨a, xs, rfl, ta, r1⟩ := hx.tup
        obtain ⟨b, ys, rfl, tb, r2⟩ := hy.tup
        have l1 := r1.length
        have l2 := r2.length
        refine op_catA pins s σ H _ _ v u Q I rx ry ⟨a, b, xs, ys, rfl, rfl, ta.sq, tb.sq, line_mil (by have := of_decide_eq_true hl; omega), fun z => ?_, fun _ z => ?_, fun _ _ p hp => ?_⟩
        · exact q _ _ (Same.refl H) (by rw [r1.nil_iff.mp z]; exact .of (.tup tb r2) rfl)
        · exact q _ _ (Same.refl H) (by rw [r2.nil_iff.mp z, List.append_nil]; exact .of (.tup ta r1) rfl)
        · exact q _ _ (same_upd0 hp) (ans_tup hd hp (r1.append r2))
      | _ => cases e
    | lst as =>
      cases dy with
      | lst bs =>
        obtain ⟨hl, rfl⟩ := chk_ok e
        obtain ⟨a, xs, rfl, ta, r1⟩ := hx.lst
        obtain ⟨b, ys, rfl, tb, r2⟩ := hy.lst
        have l1 := r1.length
        have l2 := r2.length
        cases (show v = Value.ref a from rx)
        cases (show u = Value.ref b from ry)
        exact catL I ta tb (line_mil (by have := of_decide_eq_true hl; omega)) fun p hp => q _ _ (same_upd0 hp) (ans_lst hd hp (r1.append r2))
      | _ => cases e
    | _ => cases dy <;> cases e
  | sub =>
    cases dx with
    | int i =>
      cases dy with
      | int j => cases e; cases hx.int; cases hy.int; exact op_sub pins s σ H _ _ v u Q I rx ry ⟨i, j, rfl, rfl, fin _ rfl⟩
      | _ => cases e
    | _ => cases dy <;> cases e
  | mul =>
    cases dx with
    | int i =>
      cases dy with
      | int j =>
        obtain ⟨hc, rfl⟩ := chk_ok e
        cases hx.int
        cases hy.int
        refine op_mul pins s σ H _ _ v u Q I rx ry ⟨i, j, rfl, rfl, ?_, fin _ rfl⟩
        simp only [Bool.or_eq_true, Bool.and_eq_true, decide_eq_true_eq] at hc
        exact hc
      | _ => cases e
    | lst as =>
      cases dy with
      | int j =>
        obtain ⟨hc, rfl⟩ := chk_ok e
        simp only [Bool.and_eq_true, decide_eq_true_eq] at hc
        cases hy.int
        obtain ⟨a, xs, rfl, ta, r1⟩ := hx.lst
        have l1 := r1.length
        cases (show v = Value.ref a from rx)
        obtain ⟨t, rfl⟩ := ry
        exact repL I ta (by omega) (by omega) (line_mil (by rw [l1]; exact hc.2)) fun p hp => q _ _ (same_upd0 hp) (ans_lst hd hp (r1.rep j.toNat))
      | _ => cases e
    | _ => cases dy <;> cases e
  | fdiv =>
    cases dx with
    | int i =>
      cases dy with
      | int j =>
        obtain ⟨hc, rfl⟩ := chk_ok e
        cases hx.int
        cases hy.int
        simp only [Bool.and_eq_true, decide_eq_true_eq] at hc
        exact op_fdiv pins s σ H _ _ v u Q I rx ry ⟨i, j, rfl, rfl, hc, fin _ rfl⟩
      | _ => cases e
    | _ => cases dy <;> cases e
  | mod =>
    cases dx with
    | int i =>
      cases dy with
      | int j =>
        obtain ⟨hc, rfl⟩ := chk_ok e
        cases hx.int
        cases hy.int
        exact op_mod pins s σ H _ _ v u Q I rx ry ⟨i, j, rfl, rfl, of_decide_eq_true hc, fin _ rfl⟩
      | _ => cases e
    | _ => cases dy <;> cases e
end
end Z

/-! Z5: comparisons, items, slices. -/
namespace Z
open PySem PySem.Spec PyProof.Rows L2
section
variable {K : PySem.W.Frag} {cl : Nat → Addr} {P : Addr → Prop} {H H' : Hp}
theorem py_cons {d : D} {ds : List D} {ps : List PyData} (h : D.pys (d :: ds) = some ps) : ∃ p qs, d.py = some p ∧ D.pys ds = some qs ∧ ps = p :: qs := by
  unfold D.pys at h
  cases h1 : d.py with
  | none => rw [h1] at h; cases h
  | some p =>
    cases h2 : D.pys ds with
    | none => rw [h1, h2] at h; cases h
    | some qs => rw [h1, h2] at h; cases h; exact ⟨p, qs, rfl, rfl, rfl⟩
mutual
theorem Rep.dp : ∀ {v : V} {d : D} {p : PyData}, Rep K cl P H v d → d.py = some p → Dp K H v p
  | _, _, p, .non, e => by cases e; exact .non
  | _, _, p, .bl b, e => by cases e; exact .bl b
  | _, _, p, .int i, e => by cases e; exact .int i
  | _, _, p, .str x, e => by cases e; exact .str x
  | _, _, p, .tup (ds := ds) t r, e => by
    obtain ⟨ps, h1, h2⟩ := Option.map_eq_some_iff.mp (show (D.pys ds).map PyData.tuple = some p from e)
    subst h2
    exact .tup t.sq (r.dp h1)
  | _, _, p, .lst (ds := ds) t r, e => by
    obtain ⟨ps, h1, h2⟩ := Option.map_eq_some_iff.mp (show (D.pys ds).map PyData.list = some p from e)
    subst h2
    exact .lst t.sq (r.dp h1)
  | _, _, p, .dic _ _ _ _ _, e => by cases e
  | _, _, p, .ins _ _ _ _ _, e => by cases e
theorem Reps.dp : ∀ {v : List V} {d : List D} {p : List PyData}, Reps K cl P H v d → D.pys d = some p → DpAll K H v p
  | _, _, p, .nil, e => by cases e; exact .nil
  | _, _, p, .cons a r, e => by
    obtain ⟨q, qs, h1, h2, h3⟩ := py_cons e
    subst h3
    exact .cons (a.dp h1) (r.dp h2)
end
theorem RepB.dp {v : V} {d : D} {p : PyData} (r : RepB K cl P H v d) (e : d.py = some p) : Dp K H v p := by
  rcases r with r | ⟨a, rfl, r⟩
  · exact r.dp e
  · cases d with
    | lst ds =>
      obtain ⟨xs, h1, h2⟩ := r
      obtain ⟨ps, q1, q2⟩ := Option.map_eq_some_iff.mp (show (D.pys ds).map PyData.list = some p from e)
      subst q2
      exact .lst (.inl (.inl h1)) (h2.dp q1)
    | dic ks vs => cases e
    | _ => exact False.elim r
theorem dEq_ok {d e : D} {b : Bool} (h : dEq d e = .ok b) : ∃ x y, d.py = some x ∧ e.py = some y ∧ SeqAt.shaped x = true ∧ SeqAt.shaped y = true ∧ b = PyData.eqv x y := by
  unfold dEq at h
  cases h1 : d.py with
  | none => rw [h1] at h; cases h
  | some x =>
    cases h2 : e.py with
    | none => rw [h1, h2] at h; cases h
    | some y =>
      rw [h1, h2] at h
      obtain ⟨c, q⟩ := chk_ok h
      rw [Bool.and_eq_true] at c
      exact ⟨x, y, rfl, rfl, c.1, c.2, q.symm⟩
theorem dIn_ok {x : D} {ds : List D} {b : Bool} (h : dIn x ds = .ok b) : ∃ p ps, x.py = some p ∧ D.pys ds = some ps ∧ SeqAt.shaped p = true ∧ SeqAt.shaped (.list ps) = true ∧ b = ps.any fun z => PyData.eqv z p := by
  unfold dIn at h
  cases h1 : x.py with
  | none => rw [h1] at h; cases h
  | some p =>
    have e2 : (D.lst ds).py = (D.pys ds).map PyData.list := rfl
    cases h2 : D.pys ds with
    | none => rw [h1, e2, h2] at h; cases h
    | some ps =>
      rw [h1, e2, h2] at h
      obtain ⟨c, q⟩ := chk_ok h
      rw [Bool.and_eq_true] at c
      exact ⟨p, ps, rfl, rfl, c.1, c.2, q.symm⟩
theorem bind_ok {α β : Type} {r : R α} {f : α → R β} {b : β} (h : r.bind f = .ok b) : ∃ a, r = .ok a ∧ f a = .ok b := by
  cases r with
  | ok a => exact ⟨a, rfl, h⟩
  | ex x => cases h
  | no => cases h
/-- keys -/
theorem isKey_of {d : D} (h : isKey d = true) : ∃ k : Key, d = keyD k := by
  cases d with
  | int i => exact ⟨.inl i, rfl⟩
  | str x => exact ⟨.inr x, rfl⟩
  | _ => cases h
theorem kEq_key (a b : Key) : kEq (keyD a) (keyD b) = decide (a = b) := by
  cases a with
  | inl i => cases b with
    | inl j => show decide (i = j) = _; simp
    | inr y => show false = _; simp
  | inr x => cases b with
    | inl j => show false = _; simp
    | inr y => show decide (x = y) = _; simp
theorem repB_key {v : V} {k : Key} (r : RepB K cl P H v (keyD k)) : v = kV k := by
  cases k with
  | inl i => exact r.int
  | inr x => exact r.str
theorem dGet_val (k : Key) : ∀ {kvs : List (Key × V)} {vs : List D}, Reps K cl P H (kvs.map (·.2)) vs →
    (dGet (keyD k) (kvs.map fun p => keyD p.1) vs = none ∧ valV kvs k = none) ∨ ∃ d v, dGet (keyD k) (kvs.map fun p => keyD p.1) vs = some d ∧ valV kvs k = some v ∧ Rep K cl P H v d
  | [], [], .nil => .inl ⟨rfl, rfl⟩
  | p :: r, d :: ds, .cons a q => by
    by_cases e : p.1 = k
    · refine .inr ⟨d, p.2, ?_, valV_pos e, a⟩
      show (if kEq (keyD p.1) (keyD k) = true then some d else _) = some d
      rw [kEq_key, if_pos (decide_eq_true e)]
    · have e1 : dGet (keyD k) ((p :: r).map fun p => keyD p.1) (d :: ds) = dGet (keyD k) (r.map fun p => keyD p.1) ds := by
        show (if kEq (keyD p.1) (keyD k) = true then some d else _) = _
        rw [kEq_key, if_neg (by simp [e])]
      rw [e1, valV_neg e]
      exact dGet_val k q
end
def cmpOf : Co → CmpOp
  | .eq => .Eq | .ne => .NotEq | .lt => .Lt | .le => .LtE | .gt => .Gt | .ge => .GtE | .isin => .In | .notin => .NotIn | .isN => .Is | .notN => .IsNot
def rCmp (K : PySem.W.Frag) (cl : Nat → Addr) (o : Co) : R2 := fun x y H Q => ∃ P dx dy d, DomP P H ∧ RepB K cl P H x dx ∧ RepB K cl P H y dy ∧ dCmp o dx dy = .ok d ∧ Bk K cl P H Q d
section
variable {X : Cx} {cl : Nat → Addr}
theorem inT {K : PySem.W.Frag} {pins : List (Addr × Obj)} {s : Shared} {σ : L2.St} {H : Hp} {x : V} {u v : Value} {y : V} {Q : VK} {p : PyData} {ps : List PyData} (hu : X.A.units + 65 < cLine) (I : Inv X pins σ H s) (h1 : Dp X.K H x p) (h2 : Dp X.K H y (.tuple ps)) (rx : RelV x v) (ry : RelV y u)
    (s1 : SeqAt.shaped p = true) (s2 : SeqAt.shaped (.list ps) = true) (b : Bool) :
    (Q (.bl (ps.any fun z => PyData.eqv z p)) H → wpAny (model X.prog X.w) X.A (compareOp .In v u) (EP X pins σ Q) X.xe s) ∧ (Q (.bl (!ps.any fun z => PyData.eqv z p)) H → wpAny (model X.prog X.w) X.A (compareOp .NotIn v u) (EP X pins σ Q) X.xe s) := by
  obtain ⟨as, r1⟩ := Dp.reads I p x v h1 rx
  obtain ⟨bs, r2⟩ := Dp.reads I (.tuple ps) y u h2 ry
  exact ⟨fun q => SeqAt.in_tuple_reads r2 r1 (SeqAt.canLay_of_shaped s2) (SeqAt.canLay_of_shaped s1) (room_in_shaped s1 hu) ⟨.bl _, H, I, rfl, q⟩,
    fun q => SeqAt.notIn_tuple_reads r2 r1 (SeqAt.canLay_of_shaped s2) (SeqAt.canLay_of_shaped s1) (room_in_shaped s1 hu) ⟨.bl _, H, I, rfl, q⟩⟩
theorem cmp_ok (hu : X.A.units + 65 < cLine) (o : Co) : OpR X (compareOp (cmpOf o)) (rCmp X.K cl o) := by
  intro pins s σ H x y v u Q I rx ry h
  obtain ⟨P, dx, dy, d, hd, hx, hy, e, q⟩ := h
  have fin : ∀ b : Bool, d = .bl b → Q (.bl b) H := fun b z => q _ _ (Same.refl H) (by subst z; exact .of (.bl b) rfl)
  have hu64 : X.A.units + 64 < cLine := by omega
  have hu0 : X.A.units < cLine := by omega
  have hu1 : X.A.units + 1 < cLine := by omega
  cases o with
  | eq =>
    obtain ⟨b, h1, h2⟩ := bind_ok e
    cases h2
    obtain ⟨p, r, e1, e2, s1, s2, rfl⟩ := dEq_ok h1
    exact op_eqD hu64 pins s σ H x y v u Q I rx ry ⟨p, r, hx.dp e1, hy.dp e2, s1, s2, fin _ rfl⟩
  | ne =>
    obtain ⟨b, h1, h2⟩ := bind_ok e
    cases h2
    obtain ⟨p, r, e1, e2, s1, s2, rfl⟩ := dEq_ok h1
    exact op_neD hu64 pins s σ H x y v u Q I rx ry ⟨p, r, hx.dp e1, hy.dp e2, s1, s2, fin _ rfl⟩
  | lt =>
    cases dx with
    | int i =>
      cases dy with
      | int j => cases e; cases hx.int; cases hy.int; exact op_lt pins s σ H _ _ v u Q I rx ry ⟨i, j, rfl, rfl, fin _ rfl⟩
      | _ => cases e
    | tup as =>
      cases dy with
      | tup bs =>
        have e' : (match D.ints as, D.ints bs with
          | some x, some y => R.ok (D.bl (HT.lexLt x y))
          | _, _ => .no) = .ok d := e
        cases h1 : D.ints as with
        | none => rw [h1] at e'; cases e'
        | some ns =>
          cases h2 : D.ints bs with
          | none => rw [h1, h2] at e'; cases e'
          | some ms =>
            rw [h1, h2] at e'
            cases e'
            obtain ⟨a, xs, rfl, ta, r1⟩ := hx.tup
            obtain ⟨b, ys, rfl, tb, r2⟩ := hy.tup
            cases r1.ints h1
            cases r2.ints h2
            exact op_ltT hu0 pins s σ H _ _ v u Q I rx ry ⟨a, b, ns, ms, rfl, rfl, ta.sq, tb.sq, fin _ rfl⟩
      | _ => cases e
    | _ => cases dy <;> cases e
  | le =>
    cases dx with
    | int i =>
      cases dy with
      | int j => cases e; cases hx.int; cases hy.int; exact op_le pins s σ H _ _ v u Q I rx ry ⟨i, j, rfl, rfl, fin _ rfl⟩
      | _ => cases e
    | _ => cases dy <;> cases e
  | gt =>
    cases dx with
    | int i =>
      cases dy with
      | int j => cases e; cases hx.int; cases hy.int; exact op_gt pins s σ H _ _ v u Q I rx ry ⟨i, j, rfl, rfl, fin _ rfl⟩
      | _ => cases e
    | _ => cases dy <;> cases e
  | ge =>
    cases dx with
    | int i =>
      cases dy with
      | int j => cases e; cases hx.int; cases hy.int; exact op_ge pins s σ H _ _ v u Q I rx ry ⟨i, j, rfl, rfl, fin _ rfl⟩
      | _ => cases e
    | _ => cases dy <;> cases e
  | isin =>
    cases dy with
    | lst ds =>
      obtain ⟨b, h1, h2⟩ := bind_ok (show (dIn dx ds).bind (fun b => .ok (.bl b)) = .ok d from e)
      cases h2
      obtain ⟨p, ps, e1, e2, s1, s2, rfl⟩ := dIn_ok h1
      exact op_inD hu pins s σ H x y v u Q I rx ry ⟨p, ps, hx.dp e1, hy.dp (show (D.lst ds).py = some (.list ps) by show (D.pys ds).map PyData.list = _; rw [e2]; rfl), s1, s2, fin _ rfl⟩
    | tup ds =>
      obtain ⟨b, h1, h2⟩ := bind_ok (show (dIn dx ds).bind (fun b => .ok (.bl b)) = .ok d from e)
      cases h2
      obtain ⟨p, ps, e1, e2, s1, s2, rfl⟩ := dIn_ok h1
      exact (inT (K := X.K) hu I (hx.dp e1) (hy.dp (show (D.tup ds).py = some (.tuple ps) by show (D.pys ds).map PyData.tuple = _; rw [e2]; rfl)) rx ry s1 s2 true).1 (fin _ rfl)
    | dic ks vs =>
      obtain ⟨c, rfl⟩ := chk_ok (show chk (isKey dx) (D.bl (dGet dx ks vs).isSome) = .ok d from e)
      obtain ⟨k, rfl⟩ := isKey_of c
      cases repB_key hx
      obtain ⟨a, kvs, rfl, rd, nd, rfl, r⟩ := hy.dic
      cases (show u = Value.ref a from ry)
      refine d_in hu1 I (o := valV kvs k) (.inl ⟨kvs, k, rd, rfl, rfl⟩) rx fun s' I' => ⟨.bl _, H, I', rfl, fin _ ?_⟩
      rcases dGet_val k r with ⟨g1, g2⟩ | ⟨d', v', g1, g2, _⟩
      · rw [g1, g2]; rfl
      · rw [g1, g2]; rfl
    | _ => cases e
  | notin =>
    cases dy with
    | lst ds =>
      obtain ⟨b, h1, h2⟩ := bind_ok (show (dIn dx ds).bind (fun b => .ok (.bl !b)) = .ok d from e)
      cases h2
      obtain ⟨p, ps, e1, e2, s1, s2, rfl⟩ := dIn_ok h1
      exact op_notInD hu pins s σ H x y v u Q I rx ry ⟨p, ps, hx.dp e1, hy.dp (show (D.lst ds).py = some (.list ps) by show (D.pys ds).map PyData.list = _; rw [e2]; rfl), s1, s2, fin _ rfl⟩
    | tup ds =>
      obtain ⟨b, h1, h2⟩ := bind_ok (show (dIn dx ds).bind (fun b => .ok (.bl !b)) = .ok d from e)
      cases h2
      obtain ⟨p, ps, e1, e2, s1, s2, rfl⟩ := dIn_ok h1
      exact (inT (K := X.K) hu I (hx.dp e1) (hy.dp (show (D.tup ds).py = some (.tuple ps) by show (D.pys ds).map PyData.tuple = _; rw [e2]; rfl)) rx ry s1 s2 true).2 (fin _ rfl)
    | dic ks vs =>
      obtain ⟨c, rfl⟩ := chk_ok (show chk (isKey dx) (D.bl !(dGet dx ks vs).isSome) = .ok d from e)
      obtain ⟨k, rfl⟩ := isKey_of c
      cases repB_key hx
      obtain ⟨a, kvs, rfl, rd, nd, rfl, r⟩ := hy.dic
      cases (show u = Value.ref a from ry)
      refine d_notIn hu1 I (o := valV kvs k) (.inl ⟨kvs, k, rd, rfl, rfl⟩) rx fun s' I' => ⟨.bl _, H, I', rfl, fin _ ?_⟩
      rcases dGet_val k r with ⟨g1, g2⟩ | ⟨d', v', g1, g2, _⟩
      · rw [g1, g2]; rfl
      · rw [g1, g2]; rfl
    | _ => cases e
  | isN =>
    cases dy with
    | non =>
      refine op_isN pins s σ H x y v u Q I rx ry ⟨hy.non, fin _ ?_⟩
      cases dx with
      | non => cases hx.non; cases e; rfl
      | bl b => cases hx.bl; cases e; rfl
      | int b => cases hx.int; cases e; rfl
      | str b => cases hx.str; cases e; rfl
      | tup b => obtain ⟨a, xs, rfl, _⟩ := hx.tup; cases e; rfl
      | lst b => obtain ⟨a, xs, rfl, _⟩ := hx.lst; cases e; rfl
      | dic b c => obtain ⟨a, xs, rfl, _⟩ := hx.dic; cases e; rfl
      | ins b c => obtain ⟨a, dx, xs, rfl, _⟩ := hx.ins; cases e; rfl
    | _ => cases e
  | notN =>
    cases dy with
    | non =>
      refine op_notN pins s σ H x y v u Q I rx ry ⟨hy.non, fin _ ?_⟩
      cases dx with
      | non => cases hx.non; cases e; rfl
      | bl b => cases hx.bl; cases e; rfl
      | int b => cases hx.int; cases e; rfl
      | str b => cases hx.str; cases e; rfl
      | tup b => obtain ⟨a, xs, rfl, _⟩ := hx.tup; cases e; rfl
      | lst b => obtain ⟨a, xs, rfl, _⟩ := hx.lst; cases e; rfl
      | dic b c => obtain ⟨a, xs, rfl, _⟩ := hx.dic; cases e; rfl
      | ins b c => obtain ⟨a, dx, xs, rfl, _⟩ := hx.ins; cases e; rfl
    | _ => cases e
end
end Z

/-! Z6: items, slices, built-in calls. -/
namespace Z
open PySem PySem.Spec PyProof.Rows L2
def rIdx (K : PySem.W.Frag) (cl : Nat → Addr) : R2 := fun x y H Q => ∃ P dx dy d, DomP P H ∧ RepB K cl P H x dx ∧ RepB K cl P H y dy ∧ dIdx dx dy = .ok d ∧ ∀ v, Rep K cl P H v d → Q v H
section
variable {K : PySem.W.Frag} {cl : Nat → Addr} {P : Addr → Prop} {H H' : Hp}
theorem atI_map {xs : List V} {ds : List D} {i : Int} {d : D} (r : Reps K cl P H xs ds) (h : atI ds i = some d) : ∃ v, atI xs i = some v ∧ Rep K cl P H v d := by
  unfold atI at h ⊢
  rw [r.length]
  cases e : ixN ds.length i with
  | none => rw [e] at h; cases h
  | some j =>
    rw [e] at h
    obtain ⟨v, h1, h2⟩ := r.get (show ds[j]? = some d from h)
    exact ⟨v, h1, h2⟩
theorem cut_reps {xs : List V} {ds : List D} (r : Reps K cl P H xs ds) (lo hi : Option Int) : Reps K cl P H (cutV xs lo hi) (cutD ds lo hi) := by
  unfold cutV cutD
  rw [r.length]
  exact (r.drop _).take _
/-- several values -/
inductive RepBs (K : PySem.W.Frag) (cl : Nat → Addr) (P : Addr → Prop) (H : Hp) : List V → List D → Prop
  | nil : RepBs K cl P H [] []
  | cons {v : V} {vs : List V} {d : D} {ds : List D} : RepB K cl P H v d → RepBs K cl P H vs ds → RepBs K cl P H (v :: vs) (d :: ds)
theorem RepBs.one {vs : List V} {d : D} (r : RepBs K cl P H vs [d]) : ∃ v, vs = [v] ∧ RepB K cl P H v d := by
  cases r with
  | cons a r => cases r; exact ⟨_, rfl, a⟩
theorem RepBs.two {vs : List V} {d e : D} (r : RepBs K cl P H vs [d, e]) : ∃ v w, vs = [v, w] ∧ RepB K cl P H v d ∧ RepB K cl P H w e := by
  cases r with
  | cons a r => obtain ⟨w, rfl, b⟩ := r.one; exact ⟨_, _, rfl, a, b⟩
theorem Reps.toB : ∀ {vs : List V} {ds : List D}, Reps K cl P H vs ds → RepBs K cl P H vs ds
  | _, _, .nil => .nil
  | _, _, .cons a r => .cons (.inl a) r.toB
/-! ### sorting -/
theorem insr_perm {α : Type} (le : α → α → Bool) (x : α) : ∀ l : List α, (insr le x l).Perm (x :: l)
  | [] => List.Perm.refl _
  | y :: r => by
    unfold insr
    split
    · exact List.Perm.refl _
    · exact ((insr_perm le x r).cons y).trans (List.Perm.swap x y r)
theorem isort_perm {α : Type} (le : α → α → Bool) : ∀ l : List α, (isort le l).Perm l
  | [] => List.Perm.refl _
  | x :: r => (insr_perm le x (isort le r)).trans ((isort_perm le r).cons x)
theorem insr_sorted {α : Type} {le : α → α → Bool} (tr : ∀ a b c, le a b = true → le b c = true → le a c = true) (tot : ∀ a b, le a b = true ∨ le b a = true) (x : α) : ∀ {l : List α}, l.Pairwise (fun a b => le a b = true) → (insr le x l).Pairwise (fun a b => le a b = true)
  | [], _ => List.pairwise_singleton _ _
  | y :: r, h => by
    unfold insr
    obtain ⟨h1, h2⟩ := List.pairwise_cons.mp h
    split
    · rename_i c
      refine List.pairwise_cons.mpr ⟨fun z hz => ?_, h⟩
      rcases List.mem_cons.mp hz with rfl | hz
      · exact c
      · exact tr _ _ _ c (h1 z hz)
    · rename_i c
      refine List.pairwise_cons.mpr ⟨fun z hz => ?_, insr_sorted tr tot x h2⟩
      rcases List.mem_cons.mp ((insr_perm le x r).mem_iff.mp hz) with rfl | hz
      · exact (tot y z).resolve_right c
      · exact h1 z hz
theorem isort_sorted {α : Type} {le : α → α → Bool} (tr : ∀ a b c, le a b = true → le b c = true → le a c = true) (tot : ∀ a b, le a b = true ∨ le b a = true) : ∀ l : List α, (isort le l).Pairwise (fun a b => le a b = true)
  | [] => List.Pairwise.nil
  | x :: r => insr_sorted tr tot x (isort_sorted tr tot r)
/-- two sorted lists of the same things are one -/
theorem sorted_one {α : Type} {le : α → α → Bool} (an : ∀ a b, le a b = true → le b a = true → a = b) : ∀ {l m : List α}, l.Perm m → l.Pairwise (fun a b => le a b = true) → m.Pairwise (fun a b => le a b = true) → l = m
  | [], m, p, _, _ => (List.nil_perm.mp p).symm
  | x :: r, [], p, _, _ => by simpa using p.length_eq
  | x :: r, y :: q, p, h1, h2 => by
    obtain ⟨a1, a2⟩ := List.pairwise_cons.mp h1
    obtain ⟨b1, b2⟩ := List.pairwise_cons.mp h2
    have e : x = y := by
      rcases List.mem_cons.mp (p.mem_iff.mp List.mem_cons_self) with e | hx
      · exact e
      · rcases List.mem_cons.mp (p.symm.mem_iff.mp List.mem_cons_self) with e | hy
        · exact e.symm
        · exact an _ _ (a1 _ hy) (b1 _ hx)
    subst e
    rw [sorted_one an (List.perm_cons x |>.mp p) a2 b2]
theorem leI_tr (a b c : Int) (h1 : leI a b = true) (h2 : leI b c = true) : leI a c = true := by
  unfold leI at *
  simp only [decide_eq_true_eq] at *
  omega
theorem leI_tot (a b : Int) : leI a b = true ∨ leI b a = true := by
  unfold leI
  simp only [decide_eq_true_eq]
  omega
theorem leI_an (a b : Int) (h1 : leI a b = true) (h2 : leI b a = true) : a = b := by
  unfold leI at *
  simp only [decide_eq_true_eq] at *
  omega
theorem sort_unique (ns ms : List Int) (h1 : ms.Perm ns) (h2 : ms.Pairwise (· ≤ ·)) : ms = isort leI ns :=
  sorted_one leI_an (h1.trans (isort_perm leI ns).symm) (h2.imp fun {a b} h => decide_eq_true h) (isort_sorted leI_tr leI_tot ns)
end
def rSlD (K : PySem.W.Frag) (cl : Nat → Addr) : V → Option Int → Option Int → Hp → VK → Prop := fun x lo hi H Q => ∃ P dx d, DomP P H ∧ RepB K cl P H x dx ∧ dSl dx lo hi = .ok d ∧ Bk K cl P H Q d
def rBlt (K : PySem.W.Frag) (cl : Nat → Addr) (G : Pg) (f : Bf) : List V → Hp → VK → Prop := fun vs H Q => ∃ P ds d, DomP P H ∧ RepBs K cl P H vs ds ∧ dBlt G f ds = .ok d ∧ Bk K cl P H Q d
section
variable {X : Cx} {cl : Nat → Addr}
theorem idx_ok (hu : X.A.units + 1 < cLine) : IxR X (rIdx X.K cl) := by
  intro value slice pins s σ H x y v u Q I rx ry h hs
  obtain ⟨P, dx, dy, d, hd, hx, hy, e, q⟩ := h
  cases dx with
  | lst ds =>
    cases dy with
    | int i =>
      obtain ⟨d', h1, h2⟩ := rb_ok (show rb (atI ds i) R.ok = .ok d from e)
      cases h2
      obtain ⟨a, xs, rfl, ra, r⟩ := hx.lst
      cases hy.int
      obtain ⟨w, h3, h4⟩ := atI_map r h1
      exact ix_list value slice pins s σ H _ _ v u Q I rx ry ⟨a, xs, i, w, rfl, rfl, .inl ra, h3, q w h4⟩ hs
    | _ => cases e
  | tup ds =>
    cases dy with
    | int i =>
      obtain ⟨d', h1, h2⟩ := rb_ok (show rb (atI ds i) R.ok = .ok d from e)
      cases h2
      obtain ⟨a, xs, rfl, ra, r⟩ := hx.tup
      cases hy.int
      obtain ⟨w, h3, h4⟩ := atI_map r h1
      exact ix_tup value slice pins s σ H _ _ v u Q I rx ry ⟨a, xs, i, w, rfl, rfl, ra.sq, h3, q w h4⟩ hs
    | _ => cases e
  | dic ks vs =>
    obtain ⟨_, c1, e'⟩ := bind_ok (show (chk (isKey dy) ()).bind (fun _ => rb (dGet dy ks vs) R.ok) = .ok d by cases dy <;> exact e)
    obtain ⟨hk, _⟩ := chk_ok c1
    obtain ⟨k, rfl⟩ := isKey_of hk
    cases repB_key hy
    obtain ⟨d', h1, h2⟩ := rb_ok e'
    cases h2
    obtain ⟨a, kvs, rfl, rd, nd, rfl, r⟩ := hx.dic
    cases (show v = Value.ref a from rx)
    rcases dGet_val k r with ⟨g1, g2⟩ | ⟨d', v', g1, g2, g3⟩
    · rw [g1] at h1; cases h1
    · rw [g1] at h1
      cases h1
      have g : DGet H a (kV k) (some v') := .inl ⟨kvs, k, rd, rfl, g2.symm⟩
      exact tail_any (dict_typeIs I g) PySem.F.slot_dict_getitem.lookup (d_getItem hu I g ry fun w' s' I' rw' => ⟨v', H, I', rw', q v' g3⟩) hs
  | _ => cases dy <;> cases e
theorem slice_ok : SlR X (rSlD X.K cl) := by
  intro pins s σ H x v vl vu lo hi sl Q I rx hs pl pu h
  obtain ⟨P, dx, d, hd, hx, e, q⟩ := h
  cases dx with
  | lst ds =>
    cases e
    obtain ⟨a, xs, rfl, ra, r⟩ := hx.lst
    exact sl_list pins s σ H _ v vl vu lo hi sl Q I rx hs pl pu ⟨a, xs, rfl, .inl ra, fun p hp => q _ _ (same_upd0 hp) (ans_lst hd hp (cut_reps r lo hi))⟩
  | tup ds =>
    cases e
    obtain ⟨a, xs, rfl, ra, r⟩ := hx.tup
    refine sl_tupA pins s σ H _ v vl vu lo hi sl Q I rx hs pl pu ⟨a, xs, rfl, ra.sq, fun hw => ?_, fun _ p hp => q _ _ (same_upd0 hp) (ans_tup hd hp (cut_reps r lo hi))⟩
    refine q _ _ (Same.refl H) ?_
    have e2 : cutD ds lo hi = ds := by
      unfold cutD
      rw [← r.length, hw.1, hw.2]
      simp [r.length]
    rw [e2]
    exact .of (.tup ra r) rfl
  | _ => cases e
theorem blt_len {G : Pg} (hl : ∀ c, G.ln c = none) : CallR X (.builtin "len") (rBlt X.K cl G .len) := by
  intro pins s σ H vs us Q I rs h
  obtain ⟨P, ds, d, hd, hr, e, q⟩ := h
  have fin : ∀ i : Int, d = .int i → Q (.int i) H := fun i z => q _ _ (Same.refl H) (by subst z; exact .of (.int i) rfl)
  match ds, hr, e with
  | [.lst es], hr, e =>
    cases e
    obtain ⟨v, rfl, rv⟩ := hr.one
    obtain ⟨a, xs, rfl, ra, r⟩ := rv.lst
    exact call_len_seq pins s σ H _ us Q I rs ⟨a, xs, rfl, .inl (.inl ra), by rw [r.length]; exact fin _ rfl⟩
  | [.tup es], hr, e =>
    cases e
    obtain ⟨v, rfl, rv⟩ := hr.one
    obtain ⟨a, xs, rfl, ra, r⟩ := rv.tup
    exact call_len_seq pins s σ H _ us Q I rs ⟨a, xs, rfl, .inr ra.sq, by rw [r.length]; exact fin _ rfl⟩
  | [.dic ks ws], hr, e =>
    cases e
    obtain ⟨v, rfl, rv⟩ := hr.one
    obtain ⟨a, kvs, rfl, ra, nd, rfl, r⟩ := rv.dic
    obtain ⟨u, rfl, ru⟩ := vals1 rs
    cases (show u = Value.ref a from ru)
    refine d_len I ra fun t s' I' => ⟨.int _, H, I', ⟨t, rfl⟩, ?_⟩
    exact fin _ (by rw [List.length_map])
  | [.ins c fs], hr, e =>
    obtain ⟨f, h1, _⟩ := rb_ok (show rb (G.ln c) (fun f => (G.F f [.ins c fs]).bind lenD) = .ok d from e)
    rw [hl c] at h1
    cases h1
theorem blt_abs {G : Pg} : CallR X (.builtin "abs") (rBlt X.K cl G .abs) := by
  intro pins s σ H vs us Q I rs h
  obtain ⟨P, ds, d, hd, hr, e, q⟩ := h
  match ds, hr, e with
  | [.int i], hr, e =>
    cases e
    obtain ⟨v, rfl, rv⟩ := hr.one
    cases rv.int
    exact call_abs pins s σ H _ us Q I rs ⟨i, rfl, q _ _ (Same.refl H) (.of (.int _) rfl)⟩
theorem blt_int {G : Pg} : CallR X (.type "int") (rBlt X.K cl G .int) := by
  intro pins s σ H vs us Q I rs h
  obtain ⟨P, ds, d, hd, hr, e, q⟩ := h
  match ds, hr, e with
  | [.int i], hr, e =>
    cases e
    obtain ⟨v, rfl, rv⟩ := hr.one
    cases rv.int
    exact call_int1 pins s σ H _ us Q I rs (.inl ⟨i, rfl, q _ _ (Same.refl H) (.of (.int _) rfl)⟩)
theorem blt_min2 {G : Pg} (hc : X.calm = true) : CallR X (.builtin "min") (rBlt X.K cl G .min2) := by
  intro pins s σ H vs us Q I rs h
  obtain ⟨P, ds, d, hd, hr, e, q⟩ := h
  match ds, hr, e with
  | [.int i, .int j], hr, e =>
    cases e
    obtain ⟨v, w, rfl, rv, rw'⟩ := hr.two
    cases rv.int
    cases rw'.int
    exact call_min2 hc pins s σ H _ us Q I rs ⟨i, j, rfl, q _ _ (Same.refl H) (.of (.int _) rfl)⟩
theorem blt_max2 {G : Pg} (hc : X.calm = true) : CallR X (.builtin "max") (rBlt X.K cl G .max2) := by
  intro pins s σ H vs us Q I rs h
  obtain ⟨P, ds, d, hd, hr, e, q⟩ := h
  match ds, hr, e with
  | [.int i, .int j], hr, e =>
    cases e
    obtain ⟨v, w, rfl, rv, rw'⟩ := hr.two
    cases rv.int
    cases rw'.int
    exact call_max2 hc pins s σ H _ us Q I rs ⟨i, j, rfl, q _ _ (Same.refl H) (.of (.int _) rfl)⟩
theorem blt_all {G : Pg} (hc : X.calm = true) : CallR X (.builtin "all") (rBlt X.K cl G .all) := by
  intro pins s σ H vs us Q I rs h
  obtain ⟨P, ds, d, hd, hr, e, q⟩ := h
  match ds, hr, e with
  | [.lst es], hr, e =>
    obtain ⟨bs, h1, h2⟩ := rb_ok (show rb (D.bls es) (fun bs => R.ok (D.bl (bs.all id))) = .ok d from e)
    cases h2
    obtain ⟨v, rfl, rv⟩ := hr.one
    obtain ⟨a, xs, rfl, ra, r⟩ := rv.lst
    cases r.bls h1
    exact cr_all hc pins s σ H _ us Q I rs ⟨a, bs, rfl, .inl ra, q _ _ (Same.refl H) (.of (.bl _) rfl)⟩
theorem blt_any {G : Pg} (hc : X.calm = true) : CallR X (.builtin "any") (rBlt X.K cl G .any) := by
  intro pins s σ H vs us Q I rs h
  obtain ⟨P, ds, d, hd, hr, e, q⟩ := h
  match ds, hr, e with
  | [.lst es], hr, e =>
    obtain ⟨bs, h1, h2⟩ := rb_ok (show rb (D.bls es) (fun bs => R.ok (D.bl (bs.any id))) = .ok d from e)
    cases h2
    obtain ⟨v, rfl, rv⟩ := hr.one
    obtain ⟨a, xs, rfl, ra, r⟩ := rv.lst
    cases r.bls h1
    exact cr_any hc pins s σ H _ us Q I rs ⟨a, bs, rfl, .inl ra, q _ _ (Same.refl H) (.of (.bl _) rfl)⟩
theorem blt_sum {G : Pg} (hc : X.calm = true) : CallR X (.builtin "sum") (rBlt X.K cl G .sum) := by
  intro pins s σ H vs us Q I rs h
  obtain ⟨P, ds, d, hd, hr, e, q⟩ := h
  match ds, hr, e with
  | [.lst es], hr, e =>
    obtain ⟨bs, h1, h2⟩ := rb_ok (show rb (D.ints es) (fun ns => R.ok (D.int ns.sum)) = .ok d from e)
    cases h2
    obtain ⟨v, rfl, rv⟩ := hr.one
    obtain ⟨a, xs, rfl, ra, r⟩ := rv.lst
    cases r.ints h1
    exact cr_sum hc pins s σ H _ us Q I rs ⟨a, bs, rfl, .inl ra, q _ _ (Same.refl H) (.of (.int _) rfl)⟩
/-- sorted(t), t a tuple of ints -/
theorem cr_srtTup : CallR X (.builtin "sorted") (fun vs H Q => ∃ (a : Addr) (ns : List Int), vs = [.ref a] ∧ SqT X.K H a (ns.map V.int) ∧ ns.length < 64 ∧
    ∀ (ms : List Int) (p : Addr), ms.Perm ns → ms.Pairwise (· ≤ ·) → H p = none → Q (.ref p) (upd H p (.lst (ms.map V.int)))) := by
  intro pins s σ H vs us Q I rs h
  obtain ⟨a, ns, rfl, hs, h64, q⟩ := h
  obtain ⟨its, rv, ⟨o, ho, hc, n, hd⟩, hz⟩ := I.tuple hs
  rw [Vals.ref1 rs]
  have hi := rv.ints
  have hil : its.length = ns.length := hi.length
  refine Calls.call_function_entry kind_sorted plain_sorted entry_sorted (args_sorted1 _) ?_
  unfold Builtin.«sorted»
  refine wpAny_bind (m := checkCount "sorted" 1 1 _) (wpAny_pure ?_)
  refine wpAny_bind (wpAny_collect_seq a (.inr rfl) ho hc hd (fun h' hk => ?_) (by simp only [List.size_toArray]; rw [sizeLine_eq]; omega))
  rw [show its.toArray.toList = its by simp]
  have I1 : Inv X pins σ H { s with heap := h' } := I.kept (t' := s.toks) hk
  refine wpAny_bind (wpAny_newList ?_ (by rw [hil, sizeLine_eq]; omega))
  have hoL : (h'.push (seqObj "list" its.toArray 0)).get? h'.objs.size = some (seqObj "list" its.toArray 0) := Heap.get?_push_size _ rfl
  show wpAny _ _ _ _ _ { s with heap := h'.push (seqObj "list" its.toArray 0) }
  refine wpAny_bind (wpAny_holding (wpAny_call_entry slot_list_sort ⟨_, hoL, rfl⟩ entry_list_sort
    (list_sort_tree (s := { s with heap := h'.push (seqObj "list" its.toArray 0) }) hoL hi (by omega) fun out ms g1 g2 g3 => ⟨_, rfl, ?_⟩) (args_list_sort _)))
  obtain ⟨e', he'⟩ := sortedHeap_at (vs := its) (out := out) hoL
  have hlen : (ms.map V.int).length ≤ sizeLine := by rw [List.length_map, g2.length_eq, sizeLine_eq]; omega
  refine wpAny_pure ⟨_, rfl, .ref h'.objs.size, upd H h'.objs.size (.lst (ms.map V.int)), I1.laid (t' := s.toks) (fun b u e => ?_) (Nat.le_refl _)
    (show ObjOk X.prog X.w _ _ _ (.lst (ms.map V.int)) from ⟨hlen, out.toList, e', vals_of_ints g1, by rw [Array.toArray_toList]; exact he'⟩), rfl, q ms _ g2 g3 (I1.hok.fresh (Nat.le_refl _))⟩
  have hb : b < h'.objs.size := Heap.lt_size e
  rw [sortedHeap_old (Nat.ne_of_lt hb) (by rw [size_push']; exact Nat.lt_succ_of_lt hb)]
  exact Heap.get?_push_of_some _ e
theorem blt_sorted {G : Pg} : CallR X (.builtin "sorted") (rBlt X.K cl G .sorted) := by
  intro pins s σ H vs us Q I rs h
  obtain ⟨P, ds, d, hd, hr, e, q⟩ := h
  match ds, hr, e with
  | [.lst es], hr, e =>
    obtain ⟨ns, h1, h2⟩ := rb_ok (show rb (D.ints es) (fun ns => chk (decide (ns.length < 64)) (D.lst ((isort leI ns).map .int))) = .ok d from e)
    obtain ⟨h3, rfl⟩ := chk_ok h2
    obtain ⟨v, rfl, rv⟩ := hr.one
    obtain ⟨a, xs, rfl, ra, r⟩ := rv.lst
    cases r.ints h1
    refine cr_sorted pins s σ H _ us Q I rs ⟨a, ns, rfl, .inl ra, of_decide_eq_true h3, ?_⟩
    intro ms p h4 h5 hp
    cases sort_unique ns ms h4 h5
    exact q _ _ (same_upd0 hp) (ans_lst hd hp (reps_ints _))
  | [.tup es], hr, e =>
    obtain ⟨ns, h1, h2⟩ := rb_ok (show rb (D.ints es) (fun ns => chk (decide (ns.length < 64)) (D.lst ((isort leI ns).map .int))) = .ok d from e)
    obtain ⟨h3, rfl⟩ := chk_ok h2
    obtain ⟨v, rfl, rv⟩ := hr.one
    obtain ⟨a, xs, rfl, ra, r⟩ := rv.tup
    cases r.ints h1
    refine cr_srtTup pins s σ H _ us Q I rs ⟨a, ns, rfl, ra.sq, of_decide_eq_true h3, ?_⟩
    intro ms p h4 h5 hp
    cases sort_unique ns ms h4 h5
    exact q _ _ (same_upd0 hp) (ans_lst hd hp (reps_ints _))
theorem blt_tuple {G : Pg} : CallR X (.type "tuple") (rBlt X.K cl G .tuple) := by
  intro pins s σ H vs us Q I rs h
  obtain ⟨P, ds, d, hd, hr, e, q⟩ := h
  match ds, hr, e with
  | [.lst es], hr, e =>
    cases e
    obtain ⟨v, rfl, rv⟩ := hr.one
    obtain ⟨a, xs, rfl, ra, r⟩ := rv.lst
    exact call_tuple_of pins s σ H _ us Q I rs ⟨a, xs, rfl, .inl ⟨.inl ra, fun p hp => q _ _ (same_upd0 hp) (ans_tup hd hp r)⟩⟩
  | [.tup es], hr, e =>
    cases e
    obtain ⟨v, rfl, rv⟩ := hr.one
    obtain ⟨a, xs, rfl, ra, r⟩ := rv.tup
    exact call_tuple_of pins s σ H _ us Q I rs ⟨a, xs, rfl, .inr ⟨ra.sq, q _ _ (Same.refl H) (.of (.tup ra r) rfl)⟩⟩
theorem blt_list {G : Pg} : CallR X (.type "list") (rBlt X.K cl G .list) := by
  intro pins s σ H vs us Q I rs h
  obtain ⟨P, ds, d, hd, hr, e, q⟩ := h
  match ds, hr, e with
  | [.lst es], hr, e =>
    cases e
    obtain ⟨v, rfl, rv⟩ := hr.one
    obtain ⟨a, xs, rfl, ra, r⟩ := rv.lst
    exact call_list_of pins s σ H _ us Q I rs ⟨a, xs, rfl, .inl (.inl ra), fun p hp => q _ _ (same_upd0 hp) (ans_lst hd hp r)⟩
  | [.tup es], hr, e =>
    cases e
    obtain ⟨v, rfl, rv⟩ := hr.one
    obtain ⟨a, xs, rfl, ra, r⟩ := rv.tup
    exact call_list_of pins s σ H _ us Q I rs ⟨a, xs, rfl, .inr ra.sq, fun p hp => q _ _ (same_upd0 hp) (ans_lst hd hp r)⟩
end
end Z

/-! Zi: enumerate(tuple). -/
namespace Z
open PySem PySem.Spec PyProof.Rows L2
set_option maxHeartbeats 4000000 in
theorem enum_new1 {v : Value} {o : Obj} {H : Heap → Prop} (B : Begins v o H) :
    Meets (Builtin.«enumerate.__new__» ⟨[.type "enumerate", v], []⟩) (fun _ R s => H s.heap ∧
      R (.ok (.ret (.ref (s.heap.push o).objs.size))) { s with heap := (s.heap.push o).push { cls := .type "enumerate", data := .fields #[.none, .bool false, .ref s.heap.objs.size, rawInt 0, .none, .none] } }) :=
  .of_wp fun prog w A R s h => by
    obtain ⟨hp, g, d, tk, os⟩ := s
    obtain ⟨h1, h⟩ := h
    have hsub := sub_enumerate
    have q1 : ∀ {A' : Around} {E : Value → Shared → Prop} {Q : Value → Shared → Prop}, Q (.ref hp.objs.size) ⟨hp.push o, g, d, tk, os⟩ → wpAny (model prog w) A' (pyIter v) Q E ⟨hp, g, d, tk, os⟩ :=
      fun q => B.iter prog w _ _ ⟨hp, g, d, tk, os⟩ _ h1 q
    wp_walk using q1
    refine wpAny_stack_any fun st => wpAny_pure ?_
    split
    · rename_i c _ _ _ _ _
      cases (c == Value.type "enumerate") <;> (wp_walk using q1; exact ⟨_, rfl, h⟩)
    · wp_walk using q1
      exact ⟨_, rfl, h⟩
theorem call_enumT {prog : Program} {w : World} {A : Around} {E : Value → Shared → Prop} {s : Shared} {t : Addr} {items : Array Value} {Q : Value → Shared → Prop} (hT : s.heap.IsTuple t items)
    (h : ∀ h', IsEnum h' (s.heap.objs.size + 1) s.heap.objs.size 0 .none → h'.IsTupleIter s.heap.objs.size t 0 → (∀ b o, s.heap.get? b = some o → h'.get? b = some o) → Q (.ref (s.heap.objs.size + 1)) { s with heap := h' }) :
    wpAny (model prog w) A (call (.type "enumerate") [.ref t]) Q E s := by
  refine callType_new F.called_enumerate (by decide) (F.typeCall_enumerate_1 _) (F.newCall_enumerate_1 _) (fun obj => F.args_object_init_2 obj _) F.entry_enumerate_new (enum_new1 (begins_tuple t items)) ⟨hT, ?_⟩
  have hz : (s.heap.push { cls := .type "tuple_iterator", data := .fields #[.ref t, .int 0 0] }).objs.size = s.heap.objs.size + 1 := Heap.size_push ..
  show _ ∧ _
  rw [hz]
  have he : IsEnum ((s.heap.push { cls := .type "tuple_iterator", data := .fields #[.ref t, .int 0 0] }).push { cls := .type "enumerate", data := .fields #[.none, .bool false, .ref s.heap.objs.size, rawInt 0, .none, .none] }) (s.heap.objs.size + 1) s.heap.objs.size 0 .none := by
    have q := Heap.get?_push_size (s.heap.push { cls := .type "tuple_iterator", data := .fields #[.ref t, .int 0 0] }) (o := { cls := .type "enumerate", data := .fields #[.none, .bool false, .ref s.heap.objs.size, rawInt 0, .none, .none] }) rfl
    rw [hz] at q
    exact q
  exact ⟨⟨_, he, rfl⟩, h _ he ⟨_, Heap.get?_push_of_some _ (Heap.get?_push_size _ rfl), rfl, rfl⟩ fun b o x => Heap.get?_push_of_some _ (Heap.get?_push_of_some _ x)⟩
def IteT (K : PySem.W.Frag) (a : Addr) : It :=
  ⟨fun i H => ∃ (xs : List V) (x : V), SqT K H a xs ∧ xs[i]? = some x, fun i H v H' => ∃ T x, v = .ref T ∧ H T = none ∧ H' = upd H T (.tup [.int (i : Nat), x]) ∧ ∀ xs, SqT K H a xs → xs[i]? = some x, fun i H => ∃ xs : List V, SqT K H a xs ∧ xs.length ≤ i⟩
theorem walk_enumT {K : PySem.W.Frag} {a : Addr} {xs : List V} : Walk (IteT K a) xs.length (fun H => SqT K H a xs) (YPair (fun i => some (.int (i : Nat))) (fun i => xs[i]?)) := by
  refine ⟨fun i _ hi q => ⟨xs, xs[i], q, by simp [hi]⟩, fun _ q => ⟨xs, q, Nat.le_refl _⟩, fun i H v H' _ q y => ?_⟩
  obtain ⟨T, x, h1, h2, h3, h4⟩ := y
  exact ⟨T, .int (i : Nat), x, h1, h2, h3, rfl, h4 xs q⟩
theorem turn_enumT {P : Program} {w : World} {K : PySem.W.Frag} {elts : List Expr} {kk : Nat} {tpos : Pos} (a e it : Addr) :
    Turn P w K (.Tuple elts kk tpos) (IteT K a) [e, it] e (fun i h => (∃ old, IsEnum h e it ((i : Nat) : Int) old) ∧ h.IsTupleIter it a i ∧ e ≠ it ∧ a ≠ it ∧ a ≠ e) where
  mem := by simp
  obj := fun i h st b hb => by
    obtain ⟨⟨old, he⟩, ⟨o, ho, hc, hd⟩, _⟩ := st
    have e' : b = e ∨ b = it := by simpa using hb
    rcases e' with z | z
    · subst z
      exact ⟨_, he, fun v q => nomatch q⟩
    · subst z
      exact ⟨o, ho, fun v q => by rw [hd] at q; cases q⟩
  keep := fun i h h' st k => let ⟨⟨old, he⟩, hi, hne⟩ := st; ⟨⟨old, k e (by simp) _ he⟩, hi.at fun o q => k it (by simp) o q, hne⟩
  item := by
    intro X hP hw hK hc i pins s σ H E I hf st hg
    subst hP hw hK
    obtain ⟨⟨old, he⟩, hit, hne, hai, hae⟩ := st
    obtain ⟨xs, x, hq, hx⟩ := hg
    obtain ⟨its, rv, p, hz⟩ := I.tuple hq
    obtain ⟨u, hu, ru⟩ := rv.get hx
    have hi : i < its.length := (List.getElem?_eq_some_iff.mp hu).1
    have hel : e < s.heap.objs.size := Heap.lt_size he
    have hil : it < s.heap.objs.size := by obtain ⟨_, q, _⟩ := hit; exact Heap.lt_size q
    have hA : X.A.in1.handled = none := I.ok.hd hc
    refine wpAny_pyNext_enum_itemD (n := its.toArray.size) (Draws.tuple hA it a hai its.toArray) he ⟨hit, p⟩ (by simpa using hi) hne (by simp only [List.mem_cons, List.not_mem_nil, or_false, not_or]; exact ⟨hne, Ne.symm hae⟩) fun y h' tk hy ho hst' hT hsz hk => ?_
    have ey : y = u := by
      have q : its[i]? = some y := by simpa using hy
      rw [hu] at q
      exact (Option.some.inj q).symm
    subst ey
    refine ⟨_, rfl, wpAny_letOwnedTupleGo_enum (s := { s with heap := h', toks := tk + 1 }) ho fun h'' he' sb => ?_⟩
    have hT2 : h''.get? s.heap.objs.size = some { cls := .type "tuple", data := .seq #[.int i tk, y] } := (sb.2 _ (Nat.ne_of_gt hel)).trans hT
    have new : ObjOk X.prog X.w (upd H s.heap.objs.size (.tup [.int (i : Nat), x])) h'' s.heap.objs.size (.tup [.int (i : Nat), x]) :=
      ⟨by show 2 ≤ sizeLine; decide, [.int i tk, y], .cons ⟨_, rfl⟩ (.cons ru .nil), ⟨_, hT2, rfl, _, rfl⟩⟩
    have I1 : Inv X pins σ (upd H s.heap.objs.size (.tup [.int (i : Nat), x])) { s with heap := h'', toks := tk + 1 } :=
      I.turnedNew (ch := [e, it]) (fun b ob hb q => (sb.2 b (fun z => hb (by simp [z]))).trans (hk b ob (fun z => hb (by simp [z])) (fun z => hb (by simp [z])) q)) hf (Nat.le_refl _) new
    have hit' : h''.IsTupleIter it a (i + 1) := hst'.1.at fun o q => (sb.2 it (Ne.symm hne)).trans q
    refine ⟨.ref s.heap.objs.size, _, I1, rfl, ⟨_, x, rfl, I.hok.fresh (Nat.le_refl _), rfl, fun ys hy => by rw [I.tuple_inj hy hq]; exact hx⟩, ⟨⟨y, ?_⟩, hit', hne, hai, hae⟩, fun b hb => ?_⟩
    · have e1 : ((i + 1 : Nat) : Int) = (i : Int) + 1 := by omega
      rw [e1]
      exact he'
    · have e' : b = e ∨ b = it := by simpa using hb
      have hb' : b < s.heap.objs.size := by
        rcases e' with z | z
        · subst z; exact hel
        · subst z; exact hil
      rw [upd_ne (Nat.ne_of_lt hb')]
      exact (hf b hb).1
  done := by
    intro X hP hw hK hc i pins s σ H E I hf st hg
    subst hP hw hK
    obtain ⟨⟨old, he⟩, hit, hne, hai, hae⟩ := st
    obtain ⟨xs, hq, hx⟩ := hg
    obtain ⟨its, rv, p, hz⟩ := I.tuple hq
    obtain ⟨f0, f1, f2, f3, f4, f5⟩ := hf it (by simp)
    have hl := rv.length
    have hA : X.A.in1.handled = none := I.ok.hd hc
    have D := Draws.tuple (prog := X.prog) (w := X.w) hA it a hai its.toArray
    refine wpAny_pyNext_enum_endD (n := 0) (St := fun _ h => h.IsTupleIter it a i ∧ h.IsTuple a its.toArray) (P := fun _ _ => True) (fp := [it, a]) ⟨fun _ _ st => D.live i _ st, fun _ h h' st k => D.frame i h h' st k, fun j s Q E hj st hQ => ?_, fun s Q E st hE => ?_⟩ he ⟨hit, p⟩ fun h' eb => ⟨rfl, I.turned (t' := s.toks) (fun b o hb q => eb b o hb q) f0 f1 f3 f4 f5⟩
    · exact absurd hj (Nat.not_lt_zero j)
    · exact wpAny_nextOf_tuple_end hA st.1 st.2 (by simp; omega) hE
  self := fun A i s Q E st h => let ⟨⟨_, he⟩, _⟩ := st; wpAny_pyIter_enum he h
/-- enumerate of a list or a tuple -/
def iEnumA (K : PySem.W.Frag) (ta : TA) : TI := fun σ H R => ta σ H fun vs H1 => ∃ a xs, vs = [.ref a] ∧ ((SqL K H1 a xs ∧ R (Ite K a) H1) ∨ (SqT K H1 a xs ∧ R (IteT K a) H1))
theorem pi_enumA {X : Cx} {e : Expr} {ta : TA} {p pos tpos : Pos} {elts : List Expr} {kk : Nat} (hg : Gl X "enumerate") (hm : X.mg "enumerate" = none) (ha : PA X [e] ta) (hs : starEach [e] X.env = [(false, eval e X.env)]) :
    PI X (.Tuple elts kk tpos) (.Call (.Name "enumerate" p) [e] [] pos) (iEnumA X.K ta) := by
  refine ⟨fun pins s σ H R I h => ?_⟩
  refine Call_ (ld_blt I hg hm boot_enumerate (PyProof.Rows.callWith_type1 (thn (ha.run pos pins s σ H _ I h) fun us s1 ⟨vs, H1, I1, r1, q1⟩ => ?_) hs rfl))
  obtain ⟨a, xs, ex, q1⟩ := q1
  subst ex
  obtain ⟨u, rfl, ru⟩ := r1.one
  cases ru
  have fin : ∀ b, b = s1.heap.objs.size + 1 ∨ b = s1.heap.objs.size → FpOk X pins H1 b := fun b e' => by
    have hle : s1.heap.objs.size ≤ b := by
      rcases e' with z | z
      · rw [z]; exact Nat.le_add_right _ _
      · rw [z]; exact Nat.le_refl _
    exact I1.fpOk hle (I1.hok.fresh hle)
  rcases q1 with ⟨hq, q⟩ | ⟨hq, q⟩
  · obtain ⟨its, rv, p', hz⟩ := I1.list hq
    refine call_enumerate_list p'.isList fun h' he hit hsz hk => wpAny_pyIter_enum he ?_
    have I2 : Inv X pins σ H1 { s1 with heap := h' } := I1.kept (t' := s1.toks) hk
    exact ⟨s1.heap.objs.size + 1, [s1.heap.objs.size + 1, s1.heap.objs.size], _, _, H1, rfl, I2, turn_enum a (s1.heap.objs.size + 1) s1.heap.objs.size, ⟨⟨.none, he⟩, hit, Nat.succ_ne_self _⟩, fun b hb => fin b (by simpa using hb), q⟩
  · obtain ⟨its, rv, p', hz⟩ := I1.tuple hq
    have hlt : a < s1.heap.objs.size := by
      obtain ⟨o, ho, _⟩ := id p'
      exact Heap.lt_size ho
    refine call_enumT p' fun h' he hit hk => wpAny_pyIter_enum he ?_
    have I2 : Inv X pins σ H1 { s1 with heap := h' } := I1.kept (t' := s1.toks) hk
    exact ⟨s1.heap.objs.size + 1, [s1.heap.objs.size + 1, s1.heap.objs.size], _, _, H1, rfl, I2, turn_enumT a (s1.heap.objs.size + 1) s1.heap.objs.size, ⟨⟨.none, he⟩, hit, Nat.succ_ne_self _, Nat.ne_of_lt hlt, Nat.ne_of_lt (Nat.lt_succ_of_lt hlt)⟩, fun b hb => fin b (by simpa using hb), q⟩
theorem walk_zipT {K : PySem.W.Frag} {a b : Addr} {xs ys : List V} {n : Nat} (hn : n = min xs.length ys.length) : Walk (RZ.ItzT K a b) n (fun H => SqT K H a xs ∧ SqT K H b ys) (YPair (fun i => xs[i]?) (fun i => ys[i]?)) := by
  subst hn
  refine ⟨fun i _ hi q => ?_, fun _ q => ⟨xs, ys, q.1, q.2, by omega⟩, fun i H v H' _ q y => ?_⟩
  · have h1 : i < xs.length := by omega
    have h2 : i < ys.length := by omega
    exact ⟨xs, ys, xs[i], ys[i], q.1, q.2, by simp [h1], by simp [h2]⟩
  · obtain ⟨T, x, z, h1, h2, h3, h4, h5⟩ := y
    exact ⟨T, x, z, h1, h2, h3, h4 xs q.1, h5 ys q.2⟩
end Z

/-! Z7: the evaluator as readings of the layer; one rule for each form of an expression. -/
namespace Z
open PySem PySem.Spec PyProof.Rows L2
/-- the program's own things as they stand in the heap -/
structure En where
  K : PySem.W.Frag
  cl : Nat → Addr
  xc : Nat → Addr
  xn : Nat → Str
  fb : Nat → List Bool
  T : List (Addr × Str)
  G : Pg
  me : Addr
/-- the tables of code objects that the making of a lambda writes -/
def Tbs (P : Addr → Prop) (T : List (Addr × Str)) (H : Hp) : Prop := LamX.Tabs T H
/-- what one finds in H one finds in H', but that tables may have grown -/
structure Sm (E : En) (H H' : Hp) : Prop where
  get : ∀ b o, H b = some o → NT o → H' b = some o
  free : ∀ {b}, H' b = none → H b = none
  tab : ∀ P, DomP P H → Tbs P E.T H → Tbs P E.T H'
section
variable {E : En} {P P' : Addr → Prop} {H H1 H' : Hp} {K : PySem.W.Frag} {cl : Nat → Addr}
theorem Tbs.keep {T : List (Addr × Str)} (h : Tbs P T H) (k : Same H H') : Tbs P' T H' := LamX.Tabs.ext h k
theorem Tbs.any {T : List (Addr × Str)} (h : Tbs P T H) : Tbs P' T H := h
/-- tables and code objects are found at places that do not change -/
theorem Tbs.at {T : List (Addr × Str)} (h : Tbs P T H) (k : ∀ b ps, H b = some (.tbl ps) → H' b = some (.tbl ps)) (k2 : ∀ b q, H b = some (LamX.CodeO b q) → H' b = some (LamX.CodeO b q)) : Tbs P' T H' := fun p hp => by
  obtain ⟨ps, h1, h3, h4⟩ := h p hp
  exact ⟨ps, k _ _ h1, h3, fun pos cv e => let ⟨c, e1, e2⟩ := h4 pos cv e; ⟨c, e1, k2 _ _ e2⟩⟩
theorem Sm.of (s : Same H H') : Sm E H H' := ⟨fun b o e _ => s b o e, fun e => s.free e, fun P _ t => t.keep s⟩
theorem Sm.refl (H : Hp) : Sm E H H := .of (Same.refl H)
theorem DomP.same (h : DomP P H) (s : Sm E H H') : DomP P H' := fun a z e => h a z (s.free e)
theorem Sm.trans (s : Sm E H H1) (t : Sm E H1 H') : Sm E H H' := ⟨fun b o e n => t.get b o (s.get b o e n) n, fun e => s.free (t.free e), fun P d h => t.tab P (d.same s) (s.tab P d h)⟩
theorem same_upd {p : Addr} {o : HO} (h : H p = none) : Sm E H (upd H p o) := .of (same_upd0 h)
def isLD (o : HO) : Prop := (∃ xs, o = .lst xs) ∨ ∃ kvs, o = .dK kvs
theorem Tbs.updC {T : List (Addr × Str)} {a : Addr} {o o' : HO} (h : Tbs P T H) (ha : H a = some o) (ho : isLD o) : Tbs P' T (upd H a o') := by
  have ne : ∀ {b u}, H b = some u → (∀ xs, u ≠ .lst xs) → (∀ kvs, u ≠ .dK kvs) → b ≠ a := fun {b u} e n1 n2 z => by
    rw [z, ha] at e
    cases e
    rcases ho with ⟨xs, q⟩ | ⟨kvs, q⟩
    · exact n1 xs q
    · exact n2 kvs q
  refine h.at (fun b ps e => ?_) fun b q e => ?_
  · rw [upd_ne (ne e (fun _ z => nomatch z) fun _ z => nomatch z)]; exact e
  · rw [upd_ne (ne e (fun _ z => by unfold LamX.CodeO at z; cases z) fun _ z => by unfold LamX.CodeO at z; cases z)]; exact e
/-- some value that stands for v -/
def embV : V → Value
  | .non => .none | .bl b => .bool b | .int i => .int i 0 | .str x => .str x 0 | .byt b => .bytes b 0 | .flt b => .float b 0 | .ref a => .ref a | .ty n => .type n
theorem embV_rel (v : V) : RelV v (embV v) := by
  cases v <;> first | exact rfl | exact ⟨_, rfl⟩
theorem slO_code {a C dx b : Addr} {vs : List (Option V)} {q : Str} (h : SlX.SlO a C dx vs = LamX.CodeO b q) (e : a = b) : False := by
  subst e
  unfold SlX.SlO LamX.CodeO at h
  have h' := HO.ext.inj h
  have sz : (⟨Array.replicate a default, {}⟩ : Heap).objs.size = a := by simp
  have g : ((⟨Array.replicate a default, {}⟩ : Heap).push { PySem.W.instObj C dx with slots := (vs.map (Option.map embV)).toArray }).get? a = some { PySem.W.instObj C dx with slots := (vs.map (Option.map embV)).toArray } := by
    have := Heap.get?_push_size (⟨Array.replicate a default, {}⟩ : Heap) (o := { PySem.W.instObj C dx with slots := (vs.map (Option.map embV)).toArray }) rfl
    rw [sz] at this
    exact this
  have l : ∃ sl : Array (Option Value), ((⟨Array.replicate a default, {}⟩ : Heap).push { PySem.W.instObj C dx with slots := (vs.map (Option.map embV)).toArray }).get? a = some { PySem.W.instObj C dx with slots := sl } ∧ SlX.SlR vs sl := ⟨_, g, fun i v hv => ⟨embV v, by simp [hv], embV_rel v⟩⟩
  rw [congrFun h' _] at l
  obtain ⟨oc, ws, t, e1, e2, _⟩ := l
  rw [g] at e1
  cases e1
  cases e2
theorem Sm.updC {a : Addr} {o o' : HO} (s : Sm E H H1) (h : H a = none) (ha : H1 a = some o) (ho : isLD o) : Sm E H (upd H1 a o') := by
  refine ⟨fun b u e n => ?_, fun {b} e => ?_, fun P d t => (s.tab P d t).updC ha ho⟩
  · rw [upd_ne (ne_of_none e h)]; exact s.get b u e n
  · by_cases hb : b = a
    · rw [hb, upd_same] at e; cases e
    · rw [upd_ne hb] at e; exact s.free e
theorem Rep.same (s : Sm E H H') {v : V} {d : D} (r : Rep K cl P H v d) : Rep K cl P H' v d := r.mono fun b o _ n q => s.get b o q n
theorem Reps.same (s : Sm E H H') {v : List V} {d : List D} (r : Reps K cl P H v d) : Reps K cl P H' v d := r.mono fun b o _ n q => s.get b o q n
theorem OwnAt.same (s : Sm E H H') {a : Addr} {d : D} (r : OwnAt K cl P H a d) : OwnAt K cl P H' a d := r.mono (fun b o _ n q => s.get b o q n) fun o n q => s.get a o q n
theorem RepB.mono (s : Sm E H H') {v : V} {d : D} (r : RepB K cl P H v d) : RepB K cl P H' v d := by
  rcases r with r | ⟨a, e, r⟩
  · exact .inl (r.same s)
  · exact .inr ⟨a, e, r.same s⟩
theorem RepBs.same (s : Sm E H H') : ∀ {vs : List V} {ds : List D}, RepBs K cl P H vs ds → RepBs K cl P H' vs ds
  | _, _, .nil => .nil
  | _, _, .cons a r => .cons (a.mono s) (r.same s)
end
variable (E : En)
structure Rl (P : Addr → Prop) (st : Sl) (σ : L2.St) (H : Hp) : Prop where
  dom : DomP P H
  len : σ.length = st.length
  tab : Tbs P E.T H
  val : ∀ i d, getV st i = .ok d → ∃ v, σ[i]? = some (some v) ∧ Rep E.K E.cl P H v d
  bor : ∀ i d, getB st i = .ok d → ∃ v, σ[i]? = some (some v) ∧ RepB E.K E.cl P H v d
def RepX (P : Addr → Prop) (ir : Ex) (H H' : Hp) (v : V) (d : D) : Prop :=
  if isB ir = true then RepB E.K E.cl P H' v d else Rep E.K E.cl P H' v d ∧ (isFr ir = true → isCont d = true → Fr E.K E.cl P H H' v d)
def XAt (P : Addr → Prop) (H : Hp) (x : Xc) (d : Option Addr) : Prop :=
  (x.fs = [] ∧ d = none) ∨ ∃ dd v y, x.fs = [y] ∧ d = some dd ∧ H dd = some (.xd [(E.xn x.c, v)]) ∧ ¬ P dd ∧ Rep E.K E.cl P H v y
def Aft {α : Type} (W : WX) (P : Addr → Prop) (σ : L2.St) (H : Hp) (r : R α) (k : α → Prop) : Prop := match r with
  | .ok a => k a
  | .ex x => ∀ d H', Sm E H H' → XAt E P H' x d → W (.ref (E.xc x.c)) d σ H'
  | .no => False
def tE (W : WX) (ir : Ex) : TE := fun σ H Q => ∃ st P, Rl E P st σ H ∧ Aft E W P σ H (ev E.G ir st) fun d => ∀ v H', Sm E H H' → RepX E P ir H H' v d → Q v H'
def tT (W : WX) (ir : Ex) : TT := fun σ H Q => ∃ st P, Rl E P st σ H ∧ Aft E W P σ H (evT E.G ir st) fun b => ∀ H', Sm E H H' → Q b H'
def RLs (P : Addr → Prop) : Ex → Hp → Hp → List V → List D → Prop
  | .nil, H, H', vs, ds => vs = [] ∧ ds = [] ∧ H' = H
  | .cons x r, H, H', vs, ds => ∃ H1 v d vs' ds', vs = v :: vs' ∧ ds = d :: ds' ∧ Sm E H H1 ∧ RepX E P x H H1 v d ∧ RLs P r H1 H' vs' ds'
  | .star _ r, H, H', vs, ds => ∃ H1 xs es vs' ds', vs = xs ++ vs' ∧ ds = es ++ ds' ∧ Sm E H H1 ∧ Reps E.K E.cl P H1 xs es ∧ RLs P r H1 H' vs' ds'
  | _, _, _, _, _ => False
def tL (W : WX) (l : Ex) : TA := fun σ H Q => ∃ st P, Rl E P st σ H ∧ Aft E W P σ H (evL E.G l st) fun ds => ∀ vs H', Sm E H H' → RLs E P l H H' vs ds → Q vs H'
/-- no borrowed thing at the top of an item -/
def nbL : Ex → Bool
  | .cons x r => !isB x && nbL r
  | .star _ r => nbL r
  | _ => true
section
variable {E} {W : WX} {P : Addr → Prop} {st : Sl} {σ : L2.St} {H H1 H' : Hp}
theorem Rl.same (r : Rl E P st σ H) (s : Sm E H H') : Rl E P st σ H' where
  dom := r.dom.same s
  len := r.len
  tab := s.tab P r.dom r.tab
  val := fun i d e => let ⟨v, h1, h2⟩ := r.val i d e; ⟨v, h1, h2.same s⟩
  bor := fun i d e => let ⟨v, h1, h2⟩ := r.bor i d e; ⟨v, h1, h2.mono s⟩
theorem RepX.b {ir : Ex} {v : V} {d : D} (r : RepX E P ir H H' v d) : RepB E.K E.cl P H' v d := by
  unfold RepX at r
  split at r
  · exact r
  · exact .inl r.1
theorem RepX.r {ir : Ex} {v : V} {d : D} (r : RepX E P ir H H' v d) (h : isB ir = false) : Rep E.K E.cl P H' v d := by
  unfold RepX at r
  rw [h] at r
  exact r.1
theorem RepX.f {ir : Ex} {v : V} {d : D} (r : RepX E P ir H H' v d) (h : isB ir = false) (hf : isFr ir = true) (hc : isCont d = true) : Fr E.K E.cl P H H' v d := by
  unfold RepX at r
  rw [h] at r
  exact r.2 hf hc
theorem RepX.of {ir : Ex} {v : V} {d : D} (h : isB ir = false) (r : Rep E.K E.cl P H' v d) (f : isFr ir = true → isCont d = true → Fr E.K E.cl P H H' v d) : RepX E P ir H H' v d := by
  unfold RepX
  rw [h]
  exact ⟨r, f⟩
theorem RepX.ans {ir : Ex} {v : V} {d : D} (h : isB ir = false) (r : Ans E.K E.cl P H1 H' v d) (s : Sm E H H1) : RepX E P ir H H' v d :=
  .of h r.1 fun _ c => let ⟨p, e, n, o⟩ := r.2 c; ⟨p, e, s.free n, o⟩
theorem RepX.earlier {ir : Ex} {v : V} {d : D} (r : RepX E P ir H1 H' v d) (s : Sm E H H1) : RepX E P ir H H' v d := by
  unfold RepX at r ⊢
  split
  · rename_i h; rw [if_pos h] at r; exact r
  · rename_i h
    rw [if_neg h] at r
    exact ⟨r.1, fun a c => let ⟨p, e, n, o⟩ := r.2 a c; ⟨p, e, s.free n, o⟩⟩
theorem Aft.imp {α : Type} {r : R α} {k k' : α → Prop} (h : Aft E W P σ H r k) (s : Sm E H H') (hk : ∀ a, r = .ok a → k a → k' a) : Aft E W P σ H' r k' := by
  cases r with
  | ok a => exact hk a rfl h
  | ex x => exact fun d H2 s2 q => h d H2 (s.trans s2) q
  | no => exact h
theorem Aft.bind {α β : Type} {r : R α} {f : α → R β} {k : β → Prop} (h : Aft E W P σ H (r.bind f) k) : Aft E W P σ H r fun a => Aft E W P σ H (f a) k := by
  cases r with
  | ok a => exact h
  | ex x => exact h
  | no => exact h
/-- the first part of a computation -/
theorem Aft.one {α β : Type} {r : R α} {f : α → R β} {k : β → Prop} {k' : α → Prop} (h : Aft E W P σ H (r.bind f) k) (hk : ∀ a, r = .ok a → Aft E W P σ H (f a) k → k' a) : Aft E W P σ H r k' :=
  h.bind.imp (Sm.refl H) hk
theorem Aft.ok {α : Type} {r : R α} {k : α → Prop} {a : α} (h : Aft E W P σ H r k) (e : r = .ok a) : k a := by rw [e] at h; exact h
theorem Aft.nx {α : Type} {r : R α} {k : α → Prop} (h : Aft E W P σ H (nx r) k) : ∃ a, r = .ok a ∧ k a := by
  cases r with
  | ok a => exact ⟨a, rfl, h⟩
  | ex x => exact h.elim
  | no => exact h.elim
theorem RLs.same_ : ∀ {l : Ex} {H H' : Hp} {vs : List V} {ds : List D}, RLs E P l H H' vs ds → Sm E H H'
  | .nil, _, _, _, _, h => by obtain ⟨_, _, rfl⟩ := h; exact Sm.refl _
  | .cons x r, _, _, _, _, h => by obtain ⟨H1, v, d, vs', ds', _, _, s, _, q⟩ := h; exact s.trans q.same_
  | .star x r, _, _, _, _, h => by obtain ⟨H1, v, d, vs', ds', _, _, s, _, q⟩ := h; exact s.trans q.same_
theorem RLs.bs : ∀ {l : Ex} {H H' : Hp} {vs : List V} {ds : List D}, RLs E P l H H' vs ds → RepBs E.K E.cl P H' vs ds
  | .nil, _, _, _, _, h => by obtain ⟨rfl, rfl, _⟩ := h; exact .nil
  | .cons x r, _, _, _, _, h => by
    obtain ⟨H1, v, d, vs', ds', rfl, rfl, s, a, q⟩ := h
    exact .cons (a.b.mono q.same_) q.bs
  | .star x r, _, _, _, _, h => by
    obtain ⟨H1, v, d, vs', ds', rfl, rfl, s, a, q⟩ := h
    have h1 : ∀ {v : List V} {d : List D}, Reps E.K E.cl P _ v d → RepBs E.K E.cl P _ (v ++ vs') (d ++ ds') := fun {v d} r => by
      induction r using Reps.rec (motive_1 := fun _ _ _ => True) with
      | nil => exact q.bs
      | cons a r _ ih => exact .cons (.inl a) ih
      | _ => trivial
    exact h1 (a.same q.same_)
theorem RLs.rs : ∀ {l : Ex} {H H' : Hp} {vs : List V} {ds : List D}, RLs E P l H H' vs ds → nbL l = true → Reps E.K E.cl P H' vs ds
  | .nil, _, _, _, _, h, _ => by obtain ⟨rfl, rfl, _⟩ := h; exact .nil
  | .cons x r, _, _, _, _, h, hn => by
    obtain ⟨H1, v, d, vs', ds', rfl, rfl, s, a, q⟩ := h
    obtain ⟨n1, n2⟩ := Bool.and_eq_true_iff.mp (show (!isB x && nbL r) = true from hn)
    exact .cons ((a.r (by simpa using n1)).same q.same_) (q.rs n2)
  | .star x r, _, _, _, _, h, hn => by
    obtain ⟨H1, v, d, vs', ds', rfl, rfl, s, a, q⟩ := h
    exact (a.same q.same_).append (q.rs hn)
end
theorem PE.to {X : Cx} {e : Expr} {t t' : TE} (h : PE X e t) (q : ∀ σ H Q, t' σ H Q → t σ H Q) : PE X e t' := ⟨fun pins s σ H Q I hw => h.run pins s σ H Q I (q σ H Q hw)⟩
theorem PT.to {X : Cx} {e : Expr} {t t' : TT} (h : PT X e t) (q : ∀ σ H Q, t' σ H Q → t σ H Q) : PT X e t' := ⟨fun pins s σ H Q I hw => h.run pins s σ H Q I (q σ H Q hw)⟩
theorem PW.to {X : Cx} {e : Expr} {t t' : TT} (h : PW X e t) (q : ∀ σ H Q, t' σ H Q → t σ H Q) : PW X e t' := ⟨fun wh pins s σ H Q I hw => h.run wh pins s σ H Q I (q σ H Q hw)⟩
theorem PA.to {X : Cx} {e : List Expr} {t t' : TA} (h : PA X e t) (q : ∀ σ H Q, t' σ H Q → t σ H Q) : PA X e t' := ⟨fun pos pins s σ H Q I hw => h.run pos pins s σ H Q I (q σ H Q hw)⟩
theorem PS.to {X : Cx} {e : Stmt} {t t' : TS} (h : PS X e t) (q : ∀ D σ H, t' D σ H → t D σ H) : PS X e t' := ⟨fun pins s σ H D I hw => h.run pins s σ H D I (q D σ H hw)⟩
theorem PSs.to {X : Cx} {e : List Stmt} {t t' : TS} (h : PSs X e t) (q : ∀ D σ H, t' D σ H → t D σ H) : PSs X e t' := ⟨fun pins s σ H D I hw => h.run pins s σ H D I (q D σ H hw)⟩
theorem PI.to {X : Cx} {tg e : Expr} {t t' : TI} (h : PI X tg e t) (q : ∀ σ H R, t' σ H R → t σ H R) : PI X tg e t' := ⟨fun pins s σ H R I hw => h.run pins s σ H R I (q σ H R hw)⟩
section
variable {E} {W : WX} {X : Cx} {a b c : Expr} {x y z : Ex} {pos : Pos}
/-! ### names, constants -/
theorem s_v {i : Nat} {n : Str} (hN : X.N[i]? = some n) (hv : Vis X.env.scope n) (hd : (n == ("__debug__" : Str)) = false) (hcd : (n == ("__classdict__" : Str)) = false) : PE X (.Name n pos) (tE E W (.v i)) := by
  refine PE.to (pe_var hN hv hd hcd) fun σ H Q h => ?_
  obtain ⟨st, P, r, h⟩ := h
  have h' : Aft E W P σ H (getV st i) fun d => ∀ v H', Sm E H H' → RepX E P (.v i) H H' v d → Q v H' := h
  cases e : getV st i with
  | ok d =>
    obtain ⟨v, h1, h2⟩ := r.val i d e
    exact ⟨v, h1, h'.ok e v H (Sm.refl H) (.of rfl h2 fun z => nomatch z)⟩
  | ex x => unfold getV at e; split at e <;> cases e
  | no => rw [e] at h'; exact h'.elim
theorem s_b {i : Nat} {n : Str} (hN : X.N[i]? = some n) (hv : Vis X.env.scope n) (hd : (n == ("__debug__" : Str)) = false) (hcd : (n == ("__classdict__" : Str)) = false) : PE X (.Name n pos) (tE E W (.b i)) := by
  refine PE.to (pe_var hN hv hd hcd) fun σ H Q h => ?_
  obtain ⟨st, P, r, h⟩ := h
  have h' : Aft E W P σ H (getB st i) fun d => ∀ v H', Sm E H H' → RepX E P (.b i) H H' v d → Q v H' := h
  cases e : getB st i with
  | ok d =>
    obtain ⟨v, h1, h2⟩ := r.bor i d e
    exact ⟨v, h1, h'.ok e v H (Sm.refl H) (by unfold RepX; exact h2)⟩
  | ex x => unfold getB at e; split at e <;> cases e
  | no => rw [e] at h'; exact h'.elim
theorem s_k {e : Expr} {d : D} {v : V} (h : PE X e (tC v)) (hr : ∀ P H, Rep E.K E.cl P H v d) : PE X e (tE E W (.k d)) := by
  refine PE.to h fun σ H Q h => ?_
  obtain ⟨st, P, r, h⟩ := h
  exact h v H (Sm.refl H) (.of rfl (hr P H) fun z => nomatch z)
/-! ### one part, two parts -/
variable {P : Addr → Prop} {st : Sl} {σ : L2.St} {H : Hp}
theorem one_ {β : Type} {g : D → R β} {k : β → Prop} {Q : VK} (r : Rl E P st σ H) (h : Aft E W P σ H ((ev E.G x st).bind g) k) (hQ : ∀ d v H1, Sm E H H1 → RepX E P x H H1 v d → Aft E W P σ H (g d) k → Q v H1) : tE E W x σ H Q :=
  ⟨st, P, r, Aft.one h fun d e h1 v H1 s1 r1 => hQ d v H1 s1 r1 h1⟩
theorem two_ {β : Type} {g : D → D → R β} {k : β → Prop} {Q : V → VK} (r : Rl E P st σ H) (h : Aft E W P σ H ((ev E.G x st).bind fun a => (ev E.G y st).bind fun b => g a b) k)
    (hQ : ∀ d1 d2 v1 v2 H1 H2, Sm E H H1 → Sm E H1 H2 → RepX E P x H H1 v1 d1 → RepX E P y H1 H2 v2 d2 → Aft E W P σ H (g d1 d2) k → Q v1 v2 H2) : tE E W x σ H fun v1 H1 => tE E W y σ H1 (Q v1) :=
  one_ r h fun d1 v1 H1 s1 r1 h1 => ⟨st, P, r.same s1, (Aft.one h1 fun d2 e2 h2 => (show (∀ v2 H2, Sm E H1 H2 → RepX E P y H1 H2 v2 d2 → Q v1 v2 H2) from fun v2 H2 s2 r2 => hQ d1 d2 v1 v2 H1 H2 s1 s2 r1 r2 h2)).imp s1 fun _ _ k => k⟩
/-! ### operators -/
theorem s_bin {o : Bo} (hK : X.K = E.K) (ha : PE X a (tE E W x)) (hb : PE X b (tE E W y)) : PE X (.BinOp a (opOf o) b pos) (tE E W (.bin o x y)) := by
  refine PE.to (pe_op (bin_ok (cl := E.cl) o) ha hb) fun σ H Q h => ?_
  obtain ⟨st, P, r, h⟩ := h
  refine two_ r h fun d1 d2 v1 v2 H1 H2 s1 s2 r1 r2 h2 => ?_
  obtain ⟨d, e3, h3⟩ := h2.nx
  rw [hK]
  exact ⟨P, d1, d2, d, (r.same (s1.trans s2)).dom, r1.b.mono s2, r2.b, e3, fun v H' s' a => h3 v H' ((s1.trans s2).trans (Sm.of s')) (.ans rfl a (s1.trans s2))⟩
theorem s_cmp {o : Co} (hu : X.A.units + 65 < cLine) (hK : X.K = E.K) (ha : PE X a (tE E W x)) (hb : PE X b (tE E W y)) (hm : behindInMarks (cmpOf o) b = false) : PE X (.Compare a [cmpOf o] [b] pos) (tE E W (.cmp o x y)) := by
  refine PE.to (pe_cmpR (cmp_ok (cl := E.cl) hu o) ha hb hm) fun σ H Q h => ?_
  obtain ⟨st, P, r, h⟩ := h
  refine two_ r h fun d1 d2 v1 v2 H1 H2 s1 s2 r1 r2 h2 => ?_
  obtain ⟨d, e3, h3⟩ := h2.nx
  rw [hK]
  exact ⟨P, d1, d2, d, (r.same (s1.trans s2)).dom, r1.b.mono s2, r2.b, e3, fun v H' s' a => h3 v H' ((s1.trans s2).trans (Sm.of s')) (.ans rfl a (s1.trans s2))⟩
theorem dCmp_bl {o : Co} {d e f : D} (h : dCmp o d e = .ok f) : ∃ b, f = .bl b := by
  cases o with
  | eq => obtain ⟨b, _, q⟩ := bind_ok h; cases q; exact ⟨_, rfl⟩
  | ne => obtain ⟨b, _, q⟩ := bind_ok h; cases q; exact ⟨_, rfl⟩
  | lt =>
    cases d with
    | int i => cases e <;> cases h; exact ⟨_, rfl⟩
    | tup as =>
      cases e with
      | tup bs =>
        have e' : (match D.ints as, D.ints bs with
          | some x, some y => R.ok (D.bl (HT.lexLt x y))
          | _, _ => .no) = .ok f := h
        split at e'
        · cases e'; exact ⟨_, rfl⟩
        · cases e'
      | _ => cases h
    | _ => cases e <;> cases h
  | le => cases d <;> cases e <;> cases h; exact ⟨_, rfl⟩
  | gt => cases d <;> cases e <;> cases h; exact ⟨_, rfl⟩
  | ge => cases d <;> cases e <;> cases h; exact ⟨_, rfl⟩
  | isin =>
    cases e with
    | lst ds => obtain ⟨b, _, q⟩ := bind_ok (show (dIn d ds).bind (fun b => .ok (.bl b)) = .ok f from h); cases q; exact ⟨_, rfl⟩
    | tup ds => obtain ⟨b, _, q⟩ := bind_ok (show (dIn d ds).bind (fun b => .ok (.bl b)) = .ok f from h); cases q; exact ⟨_, rfl⟩
    | dic ks vs => obtain ⟨_, q⟩ := chk_ok (show chk (isKey d) (D.bl (dGet d ks vs).isSome) = .ok f from h); exact ⟨_, q.symm⟩
    | _ => cases h
  | notin =>
    cases e with
    | lst ds => obtain ⟨b, _, q⟩ := bind_ok (show (dIn d ds).bind (fun b => .ok (.bl !b)) = .ok f from h); cases q; exact ⟨_, rfl⟩
    | tup ds => obtain ⟨b, _, q⟩ := bind_ok (show (dIn d ds).bind (fun b => .ok (.bl !b)) = .ok f from h); cases q; exact ⟨_, rfl⟩
    | dic ks vs => obtain ⟨_, q⟩ := chk_ok (show chk (isKey d) (D.bl !(dGet d ks vs).isSome) = .ok f from h); exact ⟨_, q.symm⟩
    | _ => cases h
  | isN => cases e <;> cases d <;> cases h <;> exact ⟨_, rfl⟩
  | notN => cases e <;> cases d <;> cases h <;> exact ⟨_, rfl⟩
theorem tru_of {E : En} {W : WX} {P : Addr → Prop} {σ : L2.St} {H : Hp} {d : D} {k : Bool → Prop} (h : Aft E W P σ H (dTru d) k) : ∃ b, d = .bl b ∧ k b := by
  cases d <;> first | exact ⟨_, rfl, h⟩ | exact (show False from h).elim
/-- the reading of a chain -/
theorem chain_rd {o p : Co} {st : Sl} {P : Addr → Prop} {σ : L2.St} {H : Hp} {k : D → Prop} {Q : VK} (hK : X.K = E.K) (r : Rl E P st σ H) (h : Aft E W P σ H (ev E.G (.chn o p x y z) st) k) (hQ : ∀ b H', Sm E H H' → k (.bl b) → Q (.bl b) H') :
    tChain (rCmp X.K E.cl o) (rCmp X.K E.cl p) (tE E W x) (tE E W y) (tE E W z) σ H Q := by
  refine two_ r h fun d1 d2 v1 v2 H1 H2 s1 s2 r1 r2 h2 => ?_
  obtain ⟨d, e3, h3⟩ := (h2.bind).nx
  obtain ⟨b, rfl⟩ := dCmp_bl e3
  rw [hK]
  have s12 := s1.trans s2
  refine ⟨P, d1, d2, _, (r.same s12).dom, r1.b.mono s2, r2.b, e3, fun v H3 s3' a => ?_⟩
  have s3 : Sm E H2 H3 := .of s3'
  obtain ⟨a1, _⟩ := a
  cases a1
  refine ⟨b, rfl, ?_⟩
  cases b with
  | false => rw [if_neg Bool.false_ne_true]; exact hQ false H3 (s12.trans s3) h3
  | true =>
    rw [if_pos rfl]
    refine ⟨st, P, r.same (s12.trans s3), (Aft.one h3 fun d3 e4 h4 => (show (∀ v3 H4, Sm E H3 H4 → RepX E P z H3 H4 v3 d3 → rCmp E.K E.cl p v2 v3 H4 Q) from fun v3 H4 s4 r4 => ?_)).imp (s12.trans s3) fun _ _ k => k⟩
    obtain ⟨d', e5, h5⟩ := h4.nx
    obtain ⟨b', rfl⟩ := dCmp_bl e5
    refine ⟨P, d2, d3, _, (r.same ((s12.trans s3).trans s4)).dom, (r2.b.mono s3).mono s4, r4.b, e5, fun v H5 s5' a => ?_⟩
    have s5 : Sm E H4 H5 := .of s5'
    obtain ⟨a1, _⟩ := a
    cases a1
    exact hQ b' H5 (((s12.trans s3).trans s4).trans s5) h5
theorem s_chn {o p : Co} (hu : X.A.units + 65 < cLine) (hK : X.K = E.K) (ha : PE X a (tE E W x)) (hb : PE X b (tE E W y)) (hc : PE X c (tE E W z)) (hm : lastMarks [cmpOf o, cmpOf p] [b, c] = false) : PE X (.Compare a [cmpOf o, cmpOf p] [b, c] pos) (tE E W (.chn o p x y z)) := by
  refine PE.to (pe_chain (cmp_ok (cl := E.cl) hu o) (cmp_ok (cl := E.cl) hu p) ha hb hc hm) fun σ H Q h => ?_
  obtain ⟨st, P, r, h⟩ := h
  exact chain_rd hK r h fun b H' s q => q _ H' s (.of rfl (.bl b) fun z => nomatch z)
theorem s_neg (ha : PE X a (tE E W x)) : PE X (.UnaryOp .USub a pos) (tE E W (.neg x)) := by
  refine PE.to (pe_un un_neg ha) fun σ H Q h => ?_
  obtain ⟨st, P, r, h⟩ := h
  refine one_ r h fun d v H1 s1 r1 h1 => ?_
  cases d with
  | int i => cases r1.b.int; exact ⟨i, rfl, h1 _ H1 s1 (.of rfl (.int _) fun z => nomatch z)⟩
  | _ => exact (show False from h1).elim
theorem s_nt (ha : PE X a (tE E W x)) : PE X (.UnaryOp .Not a pos) (tE E W (.nt x)) := by
  refine PE.to (pe_not ha) fun σ H Q h => ?_
  obtain ⟨st, P, r, h⟩ := h
  refine one_ r h fun d v H1 s1 r1 h1 => ?_
  cases d with
  | bl i => cases r1.b.bl; exact ⟨i, rfl, h1 _ H1 s1 (.of rfl (.bl _) fun z => nomatch z)⟩
  | _ => exact (show False from h1).elim
theorem s_an {rest : List Expr} (ha : PE X a (tE E W x)) (hb : PE X (.BoolOp .And (b :: rest) pos) (tE E W y)) (hy : isB y = false) : PE X (.BoolOp .And (a :: b :: rest) pos) (tE E W (.an x y)) := by
  refine PE.to (pe_and ha hb) fun σ H Q h => ?_
  obtain ⟨st, P, r, h⟩ := h
  refine one_ r h fun d v H1 s1 r1 h1 => ?_
  cases d with
  | bl i =>
    cases r1.b.bl
    refine ⟨i, rfl, ?_⟩
    cases i with
    | true => rw [if_pos rfl]; exact ⟨st, P, r.same s1, Aft.imp h1 s1 fun d e k v H2 s2 r2 => k v H2 (s1.trans s2) (.of rfl (r2.r hy) fun z => nomatch z)⟩
    | false => rw [if_neg Bool.false_ne_true]; exact h1 _ H1 s1 (.of rfl (.bl _) fun z => nomatch z)
  | _ => exact (show False from h1).elim
theorem s_orr {rest : List Expr} (ha : PE X a (tE E W x)) (hb : PE X (.BoolOp .Or (b :: rest) pos) (tE E W y)) (hy : isB y = false) : PE X (.BoolOp .Or (a :: b :: rest) pos) (tE E W (.orr x y)) := by
  refine PE.to (pe_or ha hb) fun σ H Q h => ?_
  obtain ⟨st, P, r, h⟩ := h
  refine one_ r h fun d v H1 s1 r1 h1 => ?_
  cases d with
  | bl i =>
    cases r1.b.bl
    refine ⟨i, rfl, ?_⟩
    cases i with
    | false => rw [if_neg Bool.false_ne_true]; exact ⟨st, P, r.same s1, Aft.imp h1 s1 fun d e k v H2 s2 r2 => k v H2 (s1.trans s2) (.of rfl (r2.r hy) fun z => nomatch z)⟩
    | true => rw [if_pos rfl]; exact h1 _ H1 s1 (.of rfl (.bl _) fun z => nomatch z)
  | _ => exact (show False from h1).elim
theorem s_ite (hc : PT X c (tT E W z)) (ha : PE X a (tE E W x)) (hb : PE X b (tE E W y)) (hx : isB x = false) (hy : isB y = false) : PE X (.IfExp c a b pos) (tE E W (.ite z x y)) := by
  refine PE.to (pe_ifExp hc ha hb) fun σ H Q h => ?_
  obtain ⟨st, P, r, h⟩ := h
  refine ⟨st, P, r, Aft.one h fun i e h1 H1 s1 => ?_⟩
  cases i with
  | true => rw [if_pos rfl]; exact ⟨st, P, r.same s1, Aft.imp h1 s1 fun d e k v H2 s2 r2 => k v H2 (s1.trans s2) (.of rfl (r2.r hx) fun z => nomatch z)⟩
  | false => rw [if_neg Bool.false_ne_true]; exact ⟨st, P, r.same s1, Aft.imp h1 s1 fun d e k v H2 s2 r2 => k v H2 (s1.trans s2) (.of rfl (r2.r hy) fun z => nomatch z)⟩
/-! ### tests -/
theorem s_tv (ha : PE X a (tE E W x)) (he : ∀ whole, isTrue a X.env whole = (do let v ← whole; standAt a.pos; holding [v] (truthy v))) : PT X a (tT E W (.tv x)) := by
  refine PT.to (pt_val ha he) fun σ H Q h => ?_
  obtain ⟨st, P, r, h⟩ := h
  refine one_ r h fun d v H1 s1 r1 h1 => ?_
  obtain ⟨b, rfl, q⟩ := tru_of h1
  cases r1.b.bl
  exact ⟨b, rfl, q H1 s1⟩
theorem s_tcmp {o : Co} (hu : X.A.units + 65 < cLine) (hK : X.K = E.K) (ha : PE X a (tE E W x)) (hb : PE X b (tE E W y)) (hm : behindInMarks (cmpOf o) b = false) : PT X (.Compare a [cmpOf o] [b] pos) (tT E W (.tv (.cmp o x y))) := by
  refine PT.to (pt_cmpR (cmp_ok (cl := E.cl) hu o) ha hb hm) fun σ H Q h => ?_
  obtain ⟨st, P, r, h⟩ := h
  have h0 : Aft E W P σ H ((ev E.G x st).bind fun a => (ev E.G y st).bind fun b => nx (dCmp o a b)) fun d => Aft E W P σ H (dTru d) fun b => ∀ H', Sm E H H' → Q b H' := Aft.bind h
  refine two_ r h0 fun d1 d2 v1 v2 H1 H2 s1 s2 r1 r2 h2 => ?_
  obtain ⟨d, e3, h3⟩ := h2.nx
  obtain ⟨b, rfl⟩ := dCmp_bl e3
  rw [hK]
  refine ⟨P, d1, d2, _, (r.same (s1.trans s2)).dom, r1.b.mono s2, r2.b, e3, fun v H' s' a => ?_⟩
  obtain ⟨a1, _⟩ := a
  cases a1
  exact ⟨b, rfl, h3 H' ((s1.trans s2).trans (Sm.of s'))⟩
theorem s_tchn {o p : Co} (hu : X.A.units + 65 < cLine) (hK : X.K = E.K) (ha : PE X a (tE E W x)) (hb : PE X b (tE E W y)) (hc : PE X c (tE E W z)) (hm : lastMarks [cmpOf o, cmpOf p] [b, c] = false) : PT X (.Compare a [cmpOf o, cmpOf p] [b, c] pos) (tT E W (.tv (.chn o p x y z))) := by
  refine PT.to (pt_chain (cmp_ok (cl := E.cl) hu o) (cmp_ok (cl := E.cl) hu p) ha hb hc hm) fun σ H Q h => ?_
  obtain ⟨st, P, r, h⟩ := h
  have h0 : Aft E W P σ H (ev E.G (.chn o p x y z) st) fun d => Aft E W P σ H (dTru d) fun b => ∀ H', Sm E H H' → Q b H' := Aft.bind h
  exact chain_rd hK r h0 fun b H' s q => ⟨b, rfl, q H' s⟩
theorem s_tnt (ha : PT X a (tT E W x)) : PT X (.UnaryOp .Not a pos) (tT E W (.tnt x)) := by
  refine PT.to (pt_not ha) fun σ H Q h => ?_
  obtain ⟨st, P, r, h⟩ := h
  exact ⟨st, P, r, Aft.one h fun i e h1 H1 s1 => h1 H1 s1⟩
theorem s_tan1 (ha : PT X a (tT E W x)) : PW X (.BoolOp .And [a] pos) (tT E W x) := pw_and1 ha
theorem s_tor1 (ha : PT X a (tT E W x)) : PW X (.BoolOp .Or [a] pos) (tT E W x) := pw_or1 ha
theorem s_tan {rest : List Expr} (ha : PT X a (tT E W x)) (hb : PW X (.BoolOp .And (b :: rest) pos) (tT E W y)) : PW X (.BoolOp .And (a :: b :: rest) pos) (tT E W (.tan x y)) := by
  refine PW.to (pw_and ha hb) fun σ H Q h => ?_
  obtain ⟨st, P, r, h⟩ := h
  refine ⟨st, P, r, Aft.one h fun i e h1 H1 s1 => ?_⟩
  cases i with
  | true => rw [if_pos rfl]; exact ⟨st, P, r.same s1, Aft.imp h1 s1 fun d e k H2 s2 => k H2 (s1.trans s2)⟩
  | false => rw [if_neg Bool.false_ne_true]; exact h1 H1 s1
theorem s_tor {rest : List Expr} (ha : PT X a (tT E W x)) (hb : PW X (.BoolOp .Or (b :: rest) pos) (tT E W y)) : PW X (.BoolOp .Or (a :: b :: rest) pos) (tT E W (.tor x y)) := by
  refine PW.to (pw_or ha hb) fun σ H Q h => ?_
  obtain ⟨st, P, r, h⟩ := h
  refine ⟨st, P, r, Aft.one h fun i e h1 H1 s1 => ?_⟩
  cases i with
  | true => rw [if_pos rfl]; exact h1 H1 s1
  | false => rw [if_neg Bool.false_ne_true]; exact ⟨st, P, r.same s1, Aft.imp h1 s1 fun d e k H2 s2 => k H2 (s1.trans s2)⟩
/-! ### argument lists, displays -/
theorem s_lnil : PA X [] (tL E W .nil) := by
  refine PA.to pa_nil fun σ H Q h => ?_
  obtain ⟨st, P, r, h⟩ := h
  exact h [] H (Sm.refl H) ⟨rfl, rfl, rfl⟩
theorem s_lcons {es : List Expr} {l : Ex} (ha : PE X a (tE E W x)) (hr : PA X es (tL E W l)) (hs : starEach (a :: es) X.env = (false, eval a X.env) :: starEach es X.env) : PA X (a :: es) (tL E W (.cons x l)) := by
  refine PA.to (pa_cons ha hr hs) fun σ H Q h => ?_
  obtain ⟨st, P, r, h⟩ := h
  refine one_ r h fun d v H1 s1 r1 h1 => ?_
  refine ⟨st, P, r.same s1, (Aft.one h1 fun ds e2 h2 => (show (∀ vs H2, Sm E H1 H2 → RLs E P l H1 H2 vs ds → Q (v :: vs) H2) from fun vs H2 s2 r2 => ?_)).imp s1 fun _ _ k => k⟩
  exact h2 (v :: vs) H2 (s1.trans s2) ⟨H1, v, d, vs, ds, rfl, rfl, s1, r1, r2⟩
/-- *e in a display or a call -/
def tStarA (K : PySem.W.Frag) (te : TE) (tr : TA) : TA := fun σ H Q => te σ H fun x H1 => ∃ a xs, x = .ref a ∧ (SqL K H1 a xs ∨ SqT K H1 a xs) ∧ tr σ H1 fun ys H2 => Q (xs ++ ys) H2
theorem pa_star {e : Expr} {es : List Expr} {te : TE} {t : TA} {p : Pos} (he : PE X e te) (hr : PA X es t) : PA X (.Starred e p :: es) (tStarA X.K te t) := by
  refine ⟨fun pos pins s σ H Q I h => ?_⟩
  show wpAny _ _ (spliced ((true, do let v ← eval e X.env; standAt pos; pure v) :: backTo pos (starEach es X.env))) _ _ s
  unfold spliced
  refine wpAny_bind (wpAny_bind (thn (he.run pins s σ H _ I h) fun u s1 ⟨x, H1, I1, r1, a, xs, ex, hq, q1⟩ => wpAny_bind (wpAny_standAt (wpAny_pure ?_))))
  subst ex
  cases (show u = Value.ref a from r1)
  have fin : ∀ us s', Inv X pins σ H1 s' → Vals xs us → wpAny (model X.prog X.w) X.A (do let rest ← holding us (spliced (backTo pos (starEach es X.env))); pure (us ++ rest)) (AP X pins σ Q) X.xe s' := fun us s' I' rv =>
    wpAny_bind (wpAny_holding (thn (hr.run pos pins s' σ H1 _ I' q1) fun ws s2 ⟨ys, H2, I2, ry, q2⟩ => wpAny_pure ⟨xs ++ ys, H2, I2, rv.append ry, q2⟩))
  simp only [if_true]
  refine wpAny_bind ?_
  rcases hq with hq | hq
  · obtain ⟨its, r, pl, hz⟩ := I1.list hq
    have hl := r.length
    obtain ⟨o, ho, hc, n, hd⟩ := pl.isList
    have hT : s1.TypeIs (.ref a) "list" := ⟨o, ho, hc⟩
    unfold notIterableAtAll
    refine wpAny_bind (wpAny_specialOf (T := "list") hT PySem.F.slot_list_iter.lookup (wpAny_pure ?_))
    refine wpAny_bind ?_
    refine wpAny_collect_seq a (.inl rfl) ho hc hd (fun h' hk => ?_) (by simp only [List.size_toArray]; omega)
    have e2 : its.toArray.toList = its := by simp
    rw [e2]
    exact fin its _ (I1.kept (t' := s1.toks) hk) r
  · obtain ⟨its, r, ⟨o, ho, hc, n, hd⟩, hz⟩ := I1.tuple hq
    have hl := r.length
    have hT : s1.TypeIs (.ref a) "tuple" := ⟨o, ho, hc⟩
    unfold notIterableAtAll
    refine wpAny_bind (wpAny_specialOf (T := "tuple") hT PySem.F.slot_tuple_iter.lookup (wpAny_pure ?_))
    refine wpAny_bind ?_
    refine wpAny_collect_seq a (.inr rfl) ho hc hd (fun h' hk => ?_) (by simp only [List.size_toArray]; omega)
    have e2 : its.toArray.toList = its := by simp
    rw [e2]
    exact fin its _ (I1.kept (t' := s1.toks) hk) r
theorem seq_of {E : En} {W : WX} {P : Addr → Prop} {σ : L2.St} {H : Hp} {d : D} {k : List D → Prop} (h : Aft E W P σ H (seqD d) k) : ∃ ds, (d = .lst ds ∨ d = .tup ds) ∧ k ds := by
  cases d <;> first | exact ⟨_, .inl rfl, h⟩ | exact ⟨_, .inr rfl, h⟩ | exact (show False from h).elim
theorem seq_rep {E : En} {P : Addr → Prop} {H : Hp} {v : V} {d : D} {ds : List D} (r : RepB E.K E.cl P H v d) (h : d = .lst ds ∨ d = .tup ds) : ∃ a xs, v = .ref a ∧ (SqL E.K H a xs ∨ SqT E.K H a xs) ∧ Reps E.K E.cl P H xs ds := by
  rcases h with rfl | rfl
  · obtain ⟨a, xs, e, ra, q⟩ := r.lst
    exact ⟨a, xs, e, .inl (.inl ra), q⟩
  · obtain ⟨a, xs, e, ra, q⟩ := r.tup
    exact ⟨a, xs, e, .inr ra.sq, q⟩
theorem s_lstar {es : List Expr} {l : Ex} {p : Pos} (hK : X.K = E.K) (ha : PE X a (tE E W x)) (hr : PA X es (tL E W l)) : PA X (.Starred a p :: es) (tL E W (.star x l)) := by
  refine PA.to (pa_star ha hr) fun σ H Q h => ?_
  obtain ⟨st, P, r, h⟩ := h
  refine one_ r h fun d v H1 s1 r1 h1 => ?_
  obtain ⟨ds, hd, h2⟩ := seq_of (Aft.bind h1)
  obtain ⟨b, xs, e, hq, q⟩ := seq_rep r1.b hd
  rw [hK]
  refine ⟨b, xs, e, hq, st, P, r.same s1, (Aft.one h2 fun es e2 h3 => (show (∀ vs H2, Sm E H1 H2 → RLs E P l H1 H2 vs es → Q (xs ++ vs) H2) from fun vs H2 s2 r2 => ?_)).imp s1 fun _ _ k => k⟩
  exact h3 (xs ++ vs) H2 (s1.trans s2) ⟨H1, xs, ds, vs, es, rfl, rfl, s1, q, r2⟩
theorem s_tup {es : List Expr} {l : Ex} {n : Nat} (h : PA X es (tL E W l)) (hn : nbL l = true) : PE X (.Tuple es n pos) (tE E W (.tup l)) := by
  refine PE.to (pe_tup h) fun σ H Q h => ?_
  obtain ⟨st, P, r, h⟩ := h
  refine ⟨st, P, r, Aft.one h fun ds e h1 vs H1 s1 r1 => ?_⟩
  have q := r1.rs hn
  cases hc : decide (ds.length ≤ 1000000) with
  | false => rw [hc] at h1; exact (show False from h1).elim
  | true =>
    rw [hc] at h1
    refine ⟨by rw [q.length]; exact line_mil (of_decide_eq_true hc), fun p hp => ?_⟩
    exact (show ∀ v H', Sm E H H' → RepX E P (.tup l) H H' v (.tup ds) → Q v H' from h1) _ _ (s1.trans (same_upd hp)) (.ans rfl (ans_tup (r.same s1).dom hp q) s1)
theorem s_lst {es : List Expr} {l : Ex} (h : PA X es (tL E W l)) (hn : nbL l = true) : PE X (.List es pos) (tE E W (.lst l)) := by
  refine PE.to (pe_lst h) fun σ H Q h => ?_
  obtain ⟨st, P, r, h⟩ := h
  refine ⟨st, P, r, Aft.one h fun ds e h1 vs H1 s1 r1 => ?_⟩
  have q := r1.rs hn
  cases hc : decide (ds.length ≤ 1000000) with
  | false => rw [hc] at h1; exact (show False from h1).elim
  | true =>
    rw [hc] at h1
    refine ⟨by rw [q.length]; exact line_mil (of_decide_eq_true hc), fun p hp => ?_⟩
    exact (show ∀ v H', Sm E H H' → RepX E P (.lst l) H H' v (.lst ds) → Q v H' from h1) _ _ (s1.trans (same_upd hp)) (.ans rfl (ans_lst (r.same s1).dom hp q) s1)
/-! ### items, slices -/
theorem s_idx (hu : X.A.units + 1 < cLine) (hK : X.K = E.K) (ha : PE X a (tE E W x)) (hb : PE X b (tE E W y)) (hs : PlainIx b) : PE X (.Subscript a b pos) (tE E W (.idx x y)) := by
  refine PE.to (pe_ix (idx_ok (cl := E.cl) hu) ha hb hs) fun σ H Q h => ?_
  obtain ⟨st, P, r, h⟩ := h
  refine two_ r h fun d1 d2 v1 v2 H1 H2 s1 s2 r1 r2 h2 => ?_
  obtain ⟨d, e3, h3⟩ := h2.nx
  rw [hK]
  exact ⟨P, d1, d2, d, (r.same (s1.trans s2)).dom, r1.b.mono s2, r2.b, e3, fun v a => h3 v H2 (s1.trans s2) (.of rfl a fun z => nomatch z)⟩
end
end Z

/-! Z8: slices, calls, attributes, isinstance, dicts. -/
namespace Z
open PySem PySem.Spec PyProof.Rows L2
section
variable (E : En)
def ArgR (P : Addr → Prop) (H : Hp) : List Bool → List V → List D → Prop
  | [], [], [] => True
  | b :: bs, v :: vs, d :: ds => (if b = true then RepB E.K E.cl P H v d else Rep E.K E.cl P H v d) ∧ ArgR P H bs vs ds
  | _, _, _ => False
/-- what the def f promises -/
def spF (f : Nat) : Sp := fun vs H Q XE => ∃ P ds, DomP P H ∧ Tbs P E.T H ∧ ArgR E P H (E.fb f) vs ds ∧ (match E.G.F f ds with
  | .ok d => ∀ v H', Sm E H H' → Rep E.K E.cl P H' v d → Q v H'
  | .ex x => ∀ d H', Sm E H H' → XAt E P H' x d → XE (.ref (E.xc x.c)) d H'
  | .no => False)
/-- the thing at a does what f promises -/
def CallsF (X : Cx) (W : WX) (a : Addr) (f : Nat) : Prop := ∀ (pins : List (Addr × Obj)) (s : Shared) (σ : L2.St) (H : Hp) (vs : List V) (us : List Value) (Q : VK), Inv X pins σ H s → Vals vs us → spF E f vs H Q (WE W σ) →
  wpAny (model X.prog X.w) X.A (call (.ref a) us) (EP X pins σ Q) X.xe s
end
def argOk : List Bool → Ex → Bool
  | [], .nil => true
  | b :: bs, .cons x r => (b || !isB x) && argOk bs r
  | _, _ => false
section
variable {E : En} {W : WX} {X : Cx} {a b c : Expr} {x y z : Ex} {pos : Pos} {P : Addr → Prop}
theorem ArgR.len : ∀ {bs : List Bool} {vs : List V} {ds : List D} {H : Hp}, ArgR E P H bs vs ds → vs.length = bs.length ∧ ds.length = bs.length
  | [], [], [], _, _ => ⟨rfl, rfl⟩
  | b :: bs, v :: vs, d :: ds, _, h => by have := ArgR.len h.2; exact ⟨by simp [this.1], by simp [this.2]⟩
  | [], _ :: _, _, _, h => h.elim
  | [], [], _ :: _, _, h => h.elim
  | _ :: _, [], _, _, h => h.elim
  | _ :: _, _ :: _, [], _, h => h.elim
theorem argOk_of : ∀ {l : Ex} {bs : List Bool} {H H' : Hp} {vs : List V} {ds : List D}, RLs E P l H H' vs ds → argOk bs l = true → ArgR E P H' bs vs ds
  | .nil, [], _, _, _, _, h, _ => by obtain ⟨rfl, rfl, _⟩ := h; exact True.intro
  | .star x r, [], _, _, _, _, _, hn => by cases hn
  | .star x r, b :: bs, _, _, _, _, _, hn => by cases hn
  | .cons x r, b :: bs, _, _, _, _, h, hn => by
    obtain ⟨H1, v, d, vs', ds', rfl, rfl, s, a, q⟩ := h
    obtain ⟨n1, n2⟩ := Bool.and_eq_true_iff.mp (show ((b || !isB x) && argOk bs r) = true from hn)
    refine ⟨?_, argOk_of q n2⟩
    cases b with
    | true => rw [if_pos rfl]; exact a.b.mono q.same_
    | false => rw [if_neg Bool.false_ne_true]; exact (a.r (by simpa using n1)).same q.same_
/-- from the def's own rule -/
theorem callsF_of {k : Nat} {g : Addr} {f : Nat} (F : FnR X.prog X.w X.K X.mg X.base (L2.CX X.prog X.w) k g (spF E f)) (hr : Room k X.A) (tk : Takes X W) : CallsF E X W g f := by
  intro pins s σ H vs us Q I r h
  refine wpAny_call (codeAny_mono (F X.A X.stack s H us vs Q (WE W σ) hr I.env0 r h) fun r s' hq => ?_)
  cases r with
  | error e => exact passAt tk σ pins H s e s' I hq
  | ok fl =>
    cases fl with
    | ret u => exact I.after hq
    | next => exact False.elim hq
    | brk => exact False.elim hq
    | cont => exact False.elim hq
theorem ask_of {σ : L2.St} {H H1 : Hp} {st : Sl} {f : Nat} {ds : List D} {vs : List V} {Q : VK} {ir : Ex} (r : Rl E P st σ H) (s1 : Sm E H H1) (ha : ArgR E P H1 (E.fb f) vs ds) (hb : isB ir = false) (hf : isFr ir = false)
    (h : Aft E W P σ H (E.G.F f ds) fun d => ∀ v H', Sm E H H' → RepX E P ir H H' v d → Q v H') : spF E f vs H1 Q (WE W σ) := by
  refine ⟨P, ds, (r.same s1).dom, (r.same s1).tab, ha, ?_⟩
  cases e : E.G.F f ds with
  | ok d => rw [e] at h; exact fun v H' s' q => h v H' (s1.trans s') (.of hb q fun z => by rw [hf] at z; cases z)
  | ex x => rw [e] at h; exact fun d H' s' q => h d H' (s1.trans s') q
  | no => rw [e] at h; exact h
theorem s_call {x : Str} {g : Addr} {f : Nat} {e : Expr} {es : List Expr} {l : Ex} {p : Pos} (hc : CallsF E X W g f) (hg : Gl X x) (hm : X.mg x = some (.ref g)) (hk : PySem.W.keepIn X.K (.ref g) = true) (ha : PA X (e :: es) (tL E W l)) (hok : argOk (E.fb f) l = true)
    (hdb : (x == ("__debug__" : Str)) = false) (he : starEach (e :: es) X.env = (false, eval e X.env) :: starEach es X.env) (hpl : (backTo pos (starEach es X.env)).any (·.1) = false) : PE X (.Call (.Name x p) (e :: es) [] pos) (tE E W (.call f l)) := by
  refine ⟨fun pins s σ H Q I h => ?_⟩
  obtain ⟨st, P, r, h⟩ := h
  refine wpAny_Call_Name_kw (ld_glob I hg hm ?_ hdb)
  refine PySem.W.callWith_K (h₀ := X.base) I.ok.mod.kin hk (thn (ha.run pos pins s σ H (fun vs H1 => spF E f vs H1 Q (WE W σ)) I ⟨st, P, r, Aft.one h fun ds e h1 vs H1 s1 r1 => ask_of r s1 (argOk_of r1 hok) rfl rfl h1⟩) fun us s1 ⟨vs, H1, I1, rv, q⟩ => ⟨I1.kIn, hc pins s1 σ H1 vs us Q I1 rv q⟩) he hpl
theorem s_call0 {x : Str} {g : Addr} {f : Nat} {p : Pos} (hc : CallsF E X W g f) (hg : Gl X x) (hm : X.mg x = some (.ref g)) (hk : PySem.W.keepIn X.K (.ref g) = true) (hok : argOk (E.fb f) .nil = true)
    (hdb : (x == ("__debug__" : Str)) = false) : PE X (.Call (.Name x p) [] [] pos) (tE E W (.call f .nil)) := by
  refine ⟨fun pins s σ H Q I h => ?_⟩
  obtain ⟨st, P, r, h⟩ := h
  refine wpAny_Call_Name_kw (ld_glob I hg hm ?_ hdb)
  refine PySem.W.callWith_K0 I.kIn hk (hc pins s σ H [] [] Q I .nil ?_)
  exact ask_of (ds := []) r (Sm.refl H) (argOk_of (l := .nil) (H := H) ⟨rfl, rfl, rfl⟩ hok) rfl rfl h
/-! ### slices -/
def evP (G : Pg) (ir : Ex) (st : Sl) : R (Option Int) := if isNo ir then .ok none else (ev G ir st).bind dPart
def tO (E : En) (W : WX) (ir : Ex) : TO := fun σ H Q => ∃ st P, Rl E P st σ H ∧ Aft E W P σ H (evP E.G ir st) fun o => ∀ H', Sm E H H' → Q o H'
theorem PO.to {X : Cx} {e : Option Expr} {t t' : TO} (h : PO X e t) (q : ∀ σ H Q, t' σ H Q → t σ H Q) : PO X e t' := ⟨fun pins s σ H Q I hw => h.run pins s σ H Q I (q σ H Q hw)⟩
theorem o_none : PO X none (tO E W .nil) := by
  refine PO.to po_none fun σ H Q h => ?_
  obtain ⟨st, P, r, h⟩ := h
  exact h H (Sm.refl H)
theorem o_some (ha : PE X a (tE E W x)) (hx : isNo x = false) : PO X (some a) (tO E W x) := by
  refine PO.to (po_some ha) fun σ H Q h => ?_
  obtain ⟨st, P, r, h⟩ := h
  unfold evP at h
  rw [hx] at h
  refine one_ r h fun d v H1 s1 r1 h1 => ?_
  cases d with
  | int i => cases r1.b.int; exact ⟨i, rfl, h1 H1 s1⟩
  | _ => exact (show False from h1).elim
theorem s_sl {lo hi : Option Expr} {p2 : Pos} (hK : X.K = E.K) (ha : PE X a (tE E W x)) (hl : PO X lo (tO E W y)) (hh : PO X hi (tO E W z)) : PE X (.Subscript a (.Slice lo hi none p2) pos) (tE E W (.sl x y z)) := by
  refine PE.to (pe_slice (slice_ok (cl := E.cl)) ha hl hh) fun σ H Q h => ?_
  obtain ⟨st, P, r, h⟩ := h
  refine one_ r h fun d v H1 s1 r1 h1 => ?_
  refine ⟨st, P, r.same s1, (Aft.one (show Aft E W P σ H ((evP E.G y st).bind _) _ from h1) fun o2 e2 h2 => (show (∀ H2, Sm E H1 H2 → tO E W z σ H2 _) from fun H2 s2 => ?_)).imp s1 fun _ _ k => k⟩
  have s12 := s1.trans s2
  refine ⟨st, P, r.same s12, (Aft.one (show Aft E W P σ H ((evP E.G z st).bind _) _ from h2) fun o3 e3 h3 => (show (∀ H3, Sm E H2 H3 → rSlD X.K E.cl v o2 o3 H3 Q) from fun H3 s3 => ?_)).imp s12 fun _ _ k => k⟩
  obtain ⟨d', e4, h4⟩ := h3.nx
  have s13 := s12.trans s3
  rw [hK]
  exact ⟨P, d, d', (r.same s13).dom, r1.b.mono (s2.trans s3), e4, fun v' H' s' a' => h4 v' H' (s13.trans (Sm.of s')) (.ans rfl a' s13)⟩
/-! ### built-in calls -/
def rBltE (E : En) (f : Bf) : List V → Hp → VK → Prop := fun vs H Q => ∃ P ds d, DomP P H ∧ Tbs P E.T H ∧ RepBs E.K E.cl P H vs ds ∧ dBlt E.G f ds = .ok d ∧ ∀ v H', Sm E H H' → Ans E.K E.cl P H H' v d → Q v H'
theorem blt_of {f : Bf} {g : Value} (hK : X.K = E.K) (h : CallR X g (rBlt X.K E.cl E.G f)) : CallR X g (rBltE E f) := fun pins s σ H xs us Q I r q => by
  obtain ⟨P, ds, d, h1, _, h3, h4, h5⟩ := q
  exact h pins s σ H xs us Q I r ⟨P, ds, d, h1, by rw [hK]; exact h3, h4, fun v H' s' a => h5 v H' (Sm.of s') (by rw [hK] at a; exact a)⟩
theorem blt_rd {f : Bf} {l : Ex} {σ : L2.St} {H : Hp} {Q : VK} {vs : List V} {H1 : Hp} {st : Sl} {ds : List D} (r : Rl E P st σ H) (s1 : Sm E H H1) (r1 : RepBs E.K E.cl P H1 vs ds) (h : Aft E W P σ H (nx (dBlt E.G f ds)) fun d => ∀ v H', Sm E H H' → RepX E P (.blt f l) H H' v d → Q v H') :
    rBltE E f vs H1 Q := by
  obtain ⟨d, e, q⟩ := h.nx
  exact ⟨P, ds, d, (r.same s1).dom, (r.same s1).tab, r1, e, fun v H' s' a => q v H' (s1.trans s') (.ans rfl a s1)⟩
theorem s_blt {f : Bf} {n : Str} {id : String} {e : Expr} {es : List Expr} {l : Ex} {p : Pos} (hc : CallR X (.builtin id) (rBltE E f)) (hg : Gl X n) (hm : X.mg n = none) (hv : bootBuiltins n = some (.builtin id)) (ha : PA X (e :: es) (tL E W l))
    (hn : n ≠ "__name__") (hdb : (n == ("__debug__" : Str)) = false) (he : starEach (e :: es) X.env = (false, eval e X.env) :: starEach es X.env) (hpl : (backTo pos (starEach es X.env)).any (·.1) = false) : PE X (.Call (.Name n p) (e :: es) [] pos) (tE E W (.blt f l)) := by
  refine PE.to (pe_callB hc hg hm hv ha hn hdb he hpl) fun σ H Q h => ?_
  obtain ⟨st, P, r, h⟩ := h
  exact ⟨st, P, r, Aft.one h fun ds e h1 vs H1 s1 r1 => blt_rd r s1 r1.bs h1⟩
theorem s_bltT {f : Bf} {n : Str} {id : String} {e : Expr} {es : List Expr} {l : Ex} {p : Pos} (hc : CallR X (.type id) (rBltE E f)) (hg : Gl X n) (hm : X.mg n = none) (hv : bootBuiltins n = some (.type id)) (ha : PA X (e :: es) (tL E W l))
    (hn : n ≠ "__name__") (hdb : (n == ("__debug__" : Str)) = false) (he : starEach (e :: es) X.env = (false, eval e X.env) :: starEach es X.env) (hpl : (backTo pos (starEach es X.env)).any (·.1) = false) : PE X (.Call (.Name n p) (e :: es) [] pos) (tE E W (.blt f l)) := by
  refine PE.to (pe_callTy hc hg hm hv ha hn hdb he hpl) fun σ H Q h => ?_
  obtain ⟨st, P, r, h⟩ := h
  exact ⟨st, P, r, Aft.one h fun ds e h1 vs H1 s1 r1 => blt_rd r s1 r1.bs h1⟩
/-! ### attributes, methods -/
structure PropOk (E : En) (X : Cx) (C : Addr) (n : Str) (f : Nat) : Prop where
  ex : ∃ p g k, PySem.W.findIn X.K (.ref C) n = some (some (.ref p)) ∧ PySem.W.specialIn X.K (.ref p) "__get__" = some (some (.builtin "property.__get__")) ∧ PySem.W.takesIn X.K (.ref p) = some true ∧
    (∃ rest, PySem.W.recIn X.K p "property" = some (.ref g :: rest)) ∧ FnR X.prog X.w X.K X.mg X.base (L2.CX X.prog X.w) k g (spF E f) ∧ Room (k + 1) X.A ∧ E.fb f = [false]
structure AttOk (E : En) (X : Cx) (n : Str) (i : Nat) : Prop where
  cls : ∀ c, (E.G.sl c i).isSome = true ∨ (E.G.pr c i).isSome = true → SlX.SCls X.K (E.cl c)
  slot : ∀ c j, E.G.sl c i = some j → ∃ p, SlX.Slot1 X.K (E.cl c) n p j
  prop : ∀ c f, E.G.sl c i = none → E.G.pr c i = some f → PropOk E X (E.cl c) n f
theorem cx_no {P : Program} {w : World} {o : List Env} {H : Hp} {s : Shared} {e : Value} {s' : Shared} (h : L2.CX P w o H s (fun _ _ _ => False) e s') : False := by
  obtain ⟨_, _, _, _, _, _, _, _, _, _, _, _, z⟩ := h
  exact z
theorem s_att {n : Str} {i : Nat} (ok : AttOk E X n i) (ha : PE X a (tE E W x)) (hb : attributeBase a n X.env (eval a X.env) = eval a X.env) : PE X (.Attribute a n pos) (tE E W (.att x i)) := by
  refine ⟨fun pins s σ H Q I h => ?_⟩
  obtain ⟨st, P, r, h⟩ := h
  have h0 : tE E W x σ H fun v H1 => ∃ d, RepB E.K E.cl P H1 v d ∧ Sm E H H1 ∧ Aft E W P σ H (match d with
    | .ins c fs => (match E.G.sl c i with
      | some j => rb fs[j]? .ok
      | none => rb (E.G.pr c i) fun f => nx (E.G.F f [.ins c fs]))
    | _ => .no) fun d => ∀ v H', Sm E H H' → RepX E P (.att x i) H H' v d → Q v H' := one_ r h fun d v H1 s1 r1 h1 => ⟨d, r1.b, s1, h1⟩
  refine attr_of hb (thn (ha.run pins s σ H _ I h0) fun u s1 ⟨v, H1, I1, rx, d, rd, sm, h1⟩ => ?_)
  cases d with
  | ins c fs =>
    obtain ⟨ad, dx, vs, rfl, sl, rs⟩ := rd.ins
    obtain rfl : u = Value.ref ad := rx
    cases e1 : E.G.sl c i with
    | some j =>
      simp only [e1] at h1
      cases e2 : fs[j]? with
      | none => simp only [e2, rb] at h1; exact (show False from h1).elim
      | some d' =>
        simp only [e2, rb] at h1
        obtain ⟨y, hy, ry⟩ := rs.get e2
        obtain ⟨p, sp⟩ := ok.slot c j e1
        refine SlX.getslot_ok I1 sl (ok.cls c (.inl (by rw [e1]; rfl))) sp (v := y) (by rw [List.getElem?_map, hy]; rfl) fun u' s2 I2 ru => ⟨y, H1, I2, ru, ?_⟩
        exact (show ∀ v H', Sm E H H' → RepX E P (.att x i) H H' v d' → Q v H' from h1) y H1 sm (.of rfl ry fun z => nomatch z)
    | none =>
      simp only [e1] at h1
      cases e2 : E.G.pr c i with
      | none => simp only [e2, rb] at h1; exact (show False from h1).elim
      | some f =>
        simp only [e2, rb] at h1
        obtain ⟨d', e3, h2⟩ := h1.nx
        obtain ⟨p, g, k, f1, f2, f3, f4, F, hr, fb⟩ := (ok.prop c f e1 e2).ex
        refine SlX.getprop_sl (E := fun _ _ _ => False) I1 sl (ok.cls c (.inr (by rw [e2]; rfl))) f1 f2 f3 f4 F hr (fun _ _ _ _ z => cx_no z) ?_
        refine ⟨P, [.ins c fs], (r.same sm).dom, (r.same sm).tab, by rw [fb]; exact ⟨rd.flat rfl, True.intro⟩, ?_⟩
        rw [e3]
        exact fun v H' s' q => h2 v H' (sm.trans s') (.of rfl q fun z => nomatch z)
  | _ => exact (show False from h1).elim
structure MthOk (E : En) (X : Cx) (W : WX) (n : Str) (i : Nat) : Prop where
  ex : ∀ c f, E.G.mt c i = some f → SlX.SCls X.K (E.cl c) ∧ ∃ g, Meth X.K (E.cl c) n g ∧ CallsF E X W g f
/-- the flags of a method: the first is self -/
def mthArgs (E : En) (i : Nat) (l : Ex) : Prop := ∀ c f, E.G.mt c i = some f → ∃ bs, E.fb f = false :: bs ∧ argOk bs l = true
theorem s_meth {n : Str} {i : Nat} {e : Expr} {es : List Expr} {l : Ex} {apos : Pos} {pl : Sem Bool} (ok : MthOk E X W n i) (hl : mthArgs E i l) (ha : PE X a (tE E W x)) (hb : PA X (e :: es) (tL E W l))
    (hst : starEach (e :: es) X.env = (false, eval e X.env) :: starEach es X.env) (hpl : (backTo pos (starEach es X.env)).any (·.1) = false)
    (ht : eval (.Call (.Attribute a n apos) (e :: es) [] pos) X.env = (do
      let ov ← eval a X.env
      standAt apos.atName
      let (f, first) ← holding [ov] (getMethod ov n pl)
      callWith pos f first (backTo pos (starEach (e :: es) X.env)) (backToKw pos (keywordEach [] X.env)))) : PE X (.Call (.Attribute a n apos) (e :: es) [] pos) (tE E W (.meth x i l)) := by
  refine ⟨fun pins s σ H Q I h => ?_⟩
  obtain ⟨st, P, r, h⟩ := h
  have h0 : tE E W x σ H fun v H1 => ∃ d, RepB E.K E.cl P H1 v d ∧ Sm E H H1 ∧ Aft E W P σ H (match d with
    | .ins c fs => rb (E.G.mt c i) fun f => (evL E.G l st).bind fun ds => E.G.F f (.ins c fs :: ds)
    | _ => .no) fun d => ∀ v H', Sm E H H' → RepX E P (.meth x i l) H H' v d → Q v H' := one_ r h fun d v H1 s1 r1 h1 => ⟨d, r1.b, s1, h1⟩
  refine PySem.W.methodCall_KW (pl := pl) (thn (ha.run pins s σ H _ I h0) fun u s1 ⟨v, H1, I1, rx, d, rd, sm, h1⟩ => ?_) ht
  cases d with
  | ins c fs =>
    have rr := rd.flat rfl
    obtain ⟨ad, dx, vs, rfl, sl, rs⟩ := rd.ins
    obtain rfl : u = Value.ref ad := rx
    cases e2 : E.G.mt c i with
    | none => simp only [e2, rb] at h1; exact (show False from h1).elim
    | some f =>
      simp only [e2, rb] at h1
      obtain ⟨sc, g, mt, cf⟩ := ok.ex c f e2
      obtain ⟨bs, fb, hok⟩ := hl c f e2
      refine SlX.getmethsl_ok I1 sl sc mt ?_
      have h2 : tL E W l σ H1 fun ws H2 => spF E f (.ref ad :: ws) H2 Q (WE W σ) := by
        refine ⟨st, P, r.same sm, (Aft.one h1 fun ds e3 h3 => (show (∀ vs' H2, Sm E H1 H2 → RLs E P l H1 H2 vs' ds → spF E f (.ref ad :: vs') H2 Q (WE W σ)) from fun vs' H2 s2 r2 => ?_)).imp sm fun _ _ k => k⟩
        exact ask_of (ir := .meth x i l) r (sm.trans s2) (by rw [fb]; exact ⟨rr.same s2, argOk_of r2 hok⟩) rfl rfl h3
      refine PySem.W.callWith_K (first := [.ref ad]) (h₀ := X.base) I.ok.mod.kin mt.kp (thn (hb.run pos pins s1 σ H1 _ I1 h2) fun us s2 ⟨ws, H2, I2, r3, q2⟩ => ⟨I2.kIn, ?_⟩) hst hpl
      exact cf pins s2 σ H2 (.ref ad :: ws) (.ref ad :: us) Q I2 (.cons rfl r3) q2
  | _ => exact (show False from h1).elim
theorem s_meth0 {n : Str} {i : Nat} {apos : Pos} {pl : Sem Bool} (ok : MthOk E X W n i) (hl : mthArgs E i .nil) (ha : PE X a (tE E W x))
    (ht : eval (.Call (.Attribute a n apos) [] [] pos) X.env = (do
      let ov ← eval a X.env
      standAt apos.atName
      let (f, first) ← holding [ov] (getMethod ov n pl)
      callWith pos f first (backTo pos (starEach [] X.env)) (backToKw pos (keywordEach [] X.env)))) : PE X (.Call (.Attribute a n apos) [] [] pos) (tE E W (.meth x i .nil)) := by
  refine ⟨fun pins s σ H Q I h => ?_⟩
  obtain ⟨st, P, r, h⟩ := h
  have h0 : tE E W x σ H fun v H1 => ∃ d, RepB E.K E.cl P H1 v d ∧ Sm E H H1 ∧ Aft E W P σ H (match d with
    | .ins c fs => rb (E.G.mt c i) fun f => E.G.F f [.ins c fs]
    | _ => .no) fun d => ∀ v H', Sm E H H' → RepX E P (.meth x i .nil) H H' v d → Q v H' := one_ r h fun d v H1 s1 r1 h1 => ⟨d, r1.b, s1, h1⟩
  refine PySem.W.methodCall_KW (pl := pl) (thn (ha.run pins s σ H _ I h0) fun u s1 ⟨v, H1, I1, rx, d, rd, sm, h1⟩ => ?_) ht
  cases d with
  | ins c fs =>
    have rr := rd.flat rfl
    obtain ⟨ad, dx, vs, rfl, sl, rs⟩ := rd.ins
    obtain rfl : u = Value.ref ad := rx
    cases e2 : E.G.mt c i with
    | none => simp only [e2, rb] at h1; exact (show False from h1).elim
    | some f =>
      simp only [e2, rb] at h1
      obtain ⟨sc, g, mt, cf⟩ := ok.ex c f e2
      obtain ⟨bs, fb, hok⟩ := hl c f e2
      refine SlX.getmethsl_ok I1 sl sc mt ?_
      refine PySem.W.callWith_K0 (first := [.ref ad]) I1.kIn mt.kp (cf pins s1 σ H1 [.ref ad] [.ref ad] Q I1 (.cons rfl .nil) ?_)
      exact ask_of (ir := .meth x i .nil) r sm (by rw [fb]; exact ⟨rr, argOk_of (l := .nil) (H := H1) ⟨rfl, rfl, rfl⟩ hok⟩) rfl rfl h1
  | _ => exact (show False from h1).elim
end
end Z

/-! Z9: isinstance, len of instances, dicts. -/
namespace Z
open PySem PySem.Spec PyProof.Rows L2
/-- the name of a datum's type -/
def tyN : D → String
  | .non => "NoneType" | .bl _ => "bool" | .int _ => "int" | .str _ => "str" | .tup _ => "tuple" | .lst _ => "list" | .dic _ _ => "dict" | .ins _ _ => ""
structure IsiOk (E : En) (X : Cx) (t : Ty) (u : Value) : Prop where
  prim : ∀ d : D, (∀ c fs, d ≠ .ins c fs) → PySem.W.kitOne X.K (.type (tyN d)) u = some (isTy t d)
  own : ∀ c fs, c < E.G.nc → SlX.SCls X.K (E.cl c) ∧ SlX.SIsi X.K (E.cl c) ∧ PySem.W.kitOne X.K (.ref (E.cl c)) u = some (isTy t (.ins c fs))
section
variable {E : En} {W : WX} {X : Cx} {a b c : Expr} {x y z : Ex} {pos : Pos} {P : Addr → Prop}
theorem rep_ty {v : V} {d : D} {H : Hp} (r : RepB E.K E.cl P H v d) (h : ∀ c fs, d ≠ .ins c fs) : TyX E.K H v (.type (tyN d)) := by
  cases d with
  | non => cases r.non; exact .base .non
  | bl i => cases r.bl; exact .base (.bl i)
  | int i => cases r.int; exact .base (.int i)
  | str i => cases r.str; exact .base (.str i)
  | tup ds =>
    obtain ⟨a, xs, rfl, t, _⟩ := r.tup
    rcases t with ⟨t, _⟩ | ⟨o, its, n, h1, h2, _⟩
    · rcases t with t | ⟨o, t⟩
      · exact .base (.tup t)
      · exact .fTuple t
    · exact .kTuple h1 h2
  | lst ds =>
    obtain ⟨a, xs, rfl, t, _⟩ := r.lst
    rcases t with t | ⟨o, t⟩
    · exact .base (.lst t)
    · exact .base (.frz t)
  | dic ks vs =>
    obtain ⟨a, kvs, rfl, t, _⟩ := r.dic
    rcases t with t | ⟨o, t⟩
    · exact .base (.dK t)
    · exact .fDict t
  | ins c fs => exact absurd rfl (h c fs)
/-- isinstance(a, b), by values -/
theorem isi_call {t : Ty} {u : Value} {cv : V} (hK : X.K = E.K) (ok : IsiOk E X t u) (hc : ClsV cv u) : CallR X (.builtin "isinstance") (fun vs H Q => ∃ P v d, vs = [v, cv] ∧ RepB E.K E.cl P H v d ∧ cOk E.G.nc d = true ∧ Q (.bl (isTy t d)) H) := by
  intro pins s σ H vs us Q I rs h
  obtain ⟨P, v, d, rfl, r, hk, q⟩ := h
  by_cases hi : ∃ c fs, d = .ins c fs
  · obtain ⟨c, fs, rfl⟩ := hi
    obtain ⟨a, dx, vs, rfl, sl, rr⟩ := r.ins
    obtain ⟨h1, h2, h3⟩ := ok.own c fs (of_decide_eq_true hk)
    refine SlX.call_isiSl u pins s σ H _ us Q I rs ⟨a, E.cl c, dx, _, cv, _, rfl, ?_, fun w rw => hc.eq rw, sl, h1, h2, h3, q⟩
    cases hc with
    | ty n => exact rfl
    | own C => exact rfl
  · have hi' : ∀ c fs, d ≠ .ins c fs := fun c fs e => hi ⟨c, fs, e⟩
    exact call_isi pins s σ H _ us Q I rs ⟨v, cv, _, u, _, rfl, hc, by rw [hK]; exact rep_ty r hi', ok.prim d hi', q⟩
theorem s_isi {t : Ty} {u : Value} {cv : V} {p : Pos} (hK : X.K = E.K) (ok : IsiOk E X t u) (hc : ClsV cv u) (hg : Gl X "isinstance") (hm : X.mg "isinstance" = none) (ha : PE X a (tE E W x)) (hb : PE X b (tC cv))
    (h1 : starEach [a, b] X.env = (false, eval a X.env) :: starEach [b] X.env) (h2 : starEach [b] X.env = (false, eval b X.env) :: starEach [] X.env) (hpl : (backTo pos (starEach [b] X.env)).any (·.1) = false) :
    PE X (.Call (.Name "isinstance" p) [a, b] [] pos) (tE E W (.isi x t)) := by
  refine PE.to (pe_callB (isi_call hK ok hc) hg hm (by rfl) (pa_cons ha (pa_cons hb pa_nil h2) h1) (by decide) (by decide) h1 hpl) fun σ H Q h => ?_
  obtain ⟨st, P, r, h⟩ := h
  refine one_ r h fun d v H1 s1 r1 h1 => ?_
  cases hk : cOk E.G.nc d with
  | false => rw [hk] at h1; exact (show False from h1).elim
  | true =>
    rw [hk] at h1
    exact ⟨P, v, d, rfl, r1.b, hk, (show ∀ v H', Sm E H H' → RepX E P (.isi x t) H H' v (.bl (isTy t d)) → Q v H' from h1) _ H1 s1 (.of rfl (.bl _) fun z => nomatch z)⟩
/-! ### len -/
structure LnOk (E : En) (X : Cx) : Prop where
  ex : ∀ c f, E.G.ln c = some f → ∃ g k, PySem.W.findIn X.K (.ref (E.cl c)) "__len__" = some (some (.ref g)) ∧ PySem.W.isFn X.K (.ref g) = true ∧ FnR X.prog X.w X.K X.mg X.base (L2.CX X.prog X.w) k g (spF E f) ∧ Room (k + 1) X.A ∧ E.fb f = [false]
theorem lenD_ok {d e : D} (h : lenD d = .ok e) : ∃ i, d = .int i ∧ e = .int i ∧ 0 ≤ i ∧ i < 1000000 := by
  cases d with
  | int i =>
    obtain ⟨h1, rfl⟩ := chk_ok h
    simp only [Bool.and_eq_true, decide_eq_true_eq] at h1
    exact ⟨i, rfl, rfl, h1⟩
  | _ => cases h
theorem blt_lenE (hK : X.K = E.K) (hl : LnOk E X) : CallR X (.builtin "len") (rBltE E .len) := by
  intro pins s σ H vs us Q I rs h
  obtain ⟨P, ds, d, hd, ht, hr, e, q⟩ := h
  by_cases hi : ∃ c fs, ds = [.ins c fs]
  · obtain ⟨c, fs, rfl⟩ := hi
    obtain ⟨f, h1, h2⟩ := rb_ok (show rb (E.G.ln c) (fun f => (E.G.F f [.ins c fs]).bind lenD) = .ok d from e)
    obtain ⟨d1, e1, e2⟩ := bind_ok h2
    obtain ⟨i, rfl, rfl, i1, i2⟩ := lenD_ok e2
    obtain ⟨g, k, f1, f2, F, hrm, fb⟩ := hl.ex c f h1
    obtain ⟨v, rfl, rv⟩ := hr.one
    have rf := rv.flat rfl
    obtain ⟨a, dx, vs, rfl, sl, rr⟩ := rv.ins
    obtain ⟨u, rfl, ru⟩ := vals1 rs
    cases (show u = Value.ref a from ru)
    obtain ⟨sl', od, _, J, _⟩ := SlX.slt_inst I sl
    obtain ⟨m, Fr⟩ := I.fr
    refine PySem.W.len_K Fr I.ok.mod.kin J f1 f2 ?_
    have ask : spF E f [.ref a] H (fun v H' => ∃ i : Int, v = .int i ∧ 0 ≤ i ∧ i < 1000000 ∧ Q v H') (fun _ _ _ => False) := by
      refine ⟨P, [.ins c fs], hd, ht, by rw [fb]; exact ⟨rf, True.intro⟩, ?_⟩
      rw [e1]
      exact fun v H' s' q' => by
        cases q'
        exact ⟨i, rfl, i1, i2, q _ H' s' (.of (.int i) rfl)⟩
    refine wpAny_call (codeAny_mono (F X.A.in1 X.stack s H [.ref a] [.ref a] _ (fun _ _ _ => False) hrm.in1 I.env0.in1 (.cons rfl .nil) ask) fun r s' hq => ?_)
    cases r with
    | error e => exact (cx_no hq).elim
    | ok fl =>
      cases fl with
      | ret u =>
        obtain ⟨v, H', I2, rv2, j, rfl, j1, j2, q2⟩ := I.after hq
        obtain ⟨t, rfl⟩ := rv2
        exact ⟨⟨j1, by omega⟩, .int j, H', I2.tok _, ⟨_, rfl⟩, q2⟩
      | next => exact False.elim hq
      | brk => exact False.elim hq
      | cont => exact False.elim hq
  · have hG : dBlt { E.G with ln := fun _ => none } .len ds = .ok d := by
      match ds, e, hi with
      | [.lst es], e, _ => exact e
      | [.tup es], e, _ => exact e
      | [.dic ks ws], e, _ => exact e
      | [.ins c fs], e, hi => exact absurd ⟨c, fs, rfl⟩ hi
    exact blt_len (cl := E.cl) (G := { E.G with ln := fun _ => none }) (fun _ => rfl) pins s σ H vs us Q I rs ⟨P, ds, d, hd, by rw [hK]; exact hr, hG, fun v H' s' a => q v H' (Sm.of s') (by rw [hK] at a; exact a)⟩
/-! ### dicts -/
theorem s_dget {apos : Pos} (hu : X.A.units + 1 < cLine) (hK : X.K = E.K) (ha : PE X a (tE E W x)) (hb : PE X b (tE E W y)) (m : M1 X a "get" apos b pos) : PE X (.Call (.Attribute a "get" apos) [b] [] pos) (tE E W (.dget x y)) := by
  refine PE.to (pe_dget1 hu ha hb m) fun σ H Q h => ?_
  obtain ⟨st, P, r, h⟩ := h
  refine one_ r h fun d v H1 s1 r1 h1 => ?_
  cases d with
  | dic ks vs =>
    obtain ⟨ad, kvs, rfl, ra, nd, rfl, rs⟩ := r1.b.dic
    refine ⟨ad, rfl, .inl ⟨kvs, ra⟩, st, P, r.same s1, (Aft.one h1 fun d2 e2 h2 => (show (∀ v2 H2, Sm E H1 H2 → RepX E P y H1 H2 v2 d2 → ∃ o, DGet H2 ad v2 o ∧ Q (o.getD .non) H2) from fun v2 H2 s2 r2 => ?_)).imp s1 fun _ _ k => k⟩
    cases hk : isKey d2 with
    | false => rw [hk] at h2; exact (show False from h2).elim
    | true =>
      rw [hk] at h2
      obtain ⟨k, rfl⟩ := isKey_of hk
      have ek := repB_key r2.b
      subst ek
      have rs2 := rs.same s2
      have ra2 : Rd H2 ad (.dK kvs) := rd_mono (fun o n q => s2.get ad o q n) ra
      refine ⟨valV kvs k, .inl ⟨kvs, k, ra2, rfl, rfl⟩, ?_⟩
      have h4 := fun v => (show ∀ v H', Sm E H H' → RepX E P (.dget x y) H H' v ((dGet (keyD k) (kvs.map fun p => keyD p.1) vs).getD .non) → Q v H' from h2) v H2 (s1.trans s2)
      rcases dGet_val k rs2 with ⟨e1, e3⟩ | ⟨d', v', e1, e3, rv⟩
      · rw [e1] at h4; rw [e3]; exact h4 _ (.of rfl .non fun z => nomatch z)
      · rw [e1] at h4; rw [e3]; exact h4 _ (.of rfl rv fun z => nomatch z)
  | _ => exact (show False from h1).elim
def prs : List (Ex × Ex) → Ex
  | [] => .nil
  | (k, v) :: r => .cons k (.cons v (prs r))
/-- no borrowed values -/
def prsOk : List (Ex × Ex) → Bool
  | [] => true
  | (_, v) :: r => !isB v && prsOk r
def flatP : List (D × D) → List D
  | [] => []
  | (k, v) :: r => k :: v :: flatP r
inductive PrR (E : En) (P : Addr → Prop) (H : Hp) : List (V × V) → List (D × D) → Prop
  | nil : PrR E P H [] []
  | cons {k v : V} {dk dv : D} {ps : List (V × V)} {qs : List (D × D)} : RepB E.K E.cl P H k dk → Rep E.K E.cl P H v dv → PrR E P H ps qs → PrR E P H ((k, v) :: ps) ((dk, dv) :: qs)
theorem PrR.same {H H' : Hp} (s : Sm E H H') : ∀ {ps : List (V × V)} {qs : List (D × D)}, PrR E P H ps qs → PrR E P H' ps qs
  | _, _, .nil => .nil
  | _, _, .cons a b r => .cons (a.mono s) (b.same s) (r.same s)
theorem PrR.len {H : Hp} : ∀ {ps : List (V × V)} {qs : List (D × D)}, PrR E P H ps qs → ps.length = qs.length
  | _, _, .nil => rfl
  | _, _, .cons a b r => by rw [List.length_cons, List.length_cons, r.len]
theorem Rl.widen {P' : Addr → Prop} {st : Sl} {σ : L2.St} {H : Hp} (r : Rl E P st σ H) (h : ∀ a, P' a → P a ∨ H a = none) {H' : Hp} (s : Sm E H H') (hd : DomP P' H') (ht : Tbs P' E.T H') : Rl E P' st σ H' where
  dom := hd
  len := r.len
  tab := ht
  val := fun i d e => let ⟨v, h1, h2⟩ := r.val i d e; ⟨v, h1, (h2.widen h).same s⟩
  bor := fun i d e => let ⟨v, h1, h2⟩ := r.bor i d e; ⟨v, h1, by
    rcases h2 with h2 | ⟨a, ea, h2⟩
    · exact .inl ((h2.widen h).same s)
    · exact RepB.mono s (.inr ⟨a, ea, h2.widen h⟩)⟩
theorem XAt.anti {P' : Addr → Prop} (h : ∀ a, P' a → P a) {H : Hp} {x : Xc} {d : Option Addr} (q : XAt E P H x d) : XAt E P' H x d := by
  rcases q with q | ⟨dd, v, y, h1, h2, h3, h4, h5⟩
  · exact .inl q
  · exact .inr ⟨dd, v, y, h1, h2, h3, fun z => h4 (h _ z), h5.anti h⟩
theorem Aft.wide {α : Type} {P' : Addr → Prop} (h : ∀ a, P a → P' a) {σ : L2.St} {H : Hp} {r : R α} {k : α → Prop} (q : Aft E W P σ H r k) : Aft E W P' σ H r k := by
  cases r with
  | ok a => exact q
  | ex x => exact fun d H' s z => q d H' s (z.anti h)
  | no => exact q
theorem prs_rd {st : Sl} {σ : L2.St} : ∀ {ps : List (Ex × Ex)} {H : Hp} {g : List D → R D} {k : D → Prop} {Q : List (V × V) → Hp → Prop}, prsOk ps = true → (∀ ds x, g ds ≠ .ex x) → Rl E P st σ H → Aft E W P σ H ((evL E.G (prs ps) st).bind g) k →
    (∀ vs qs H1 d, Sm E H H1 → PrR E P H1 vs qs → qs.length = ps.length → g (flatP qs) = .ok d → k d → Q vs H1) → tPairs (ps.map fun p => (tE E W p.1, tE E W p.2)) σ H Q
  | [], H, g, k, Q, _, hg, r, h, hQ => by
    have h' : Aft E W P σ H (g []) k := h
    cases e : g [] with
    | ok d => rw [e] at h'; exact hQ [] [] H d (Sm.refl H) .nil rfl e h'
    | ex x => exact absurd e (hg _ x)
    | no => rw [e] at h'; exact h'.elim
  | (a, b) :: ps, H, g, k, Q, hn, hg, r, h, hQ => by
    obtain ⟨n1, n2⟩ := Bool.and_eq_true_iff.mp (show (!isB b && prsOk ps) = true from hn)
    have h' : Aft E W P σ H ((ev E.G a st).bind fun d1 => (ev E.G b st).bind fun d2 => (evL E.G (prs ps) st).bind fun ds => g (d1 :: d2 :: ds)) k := by
      have e : ((evL E.G (prs ((a, b) :: ps)) st).bind g) = ((ev E.G a st).bind fun d1 => (ev E.G b st).bind fun d2 => (evL E.G (prs ps) st).bind fun ds => g (d1 :: d2 :: ds)) := by
        show (R.bind (R.bind (ev E.G a st) fun x => R.bind (R.bind (ev E.G b st) fun y => R.bind (evL E.G (prs ps) st) fun ds => .ok (y :: ds)) fun ds => .ok (x :: ds)) g) = _
        cases ev E.G a st with
        | ok x =>
          cases ev E.G b st with
          | ok y => cases evL E.G (prs ps) st <;> rfl
          | _ => rfl
        | _ => rfl
      rw [← e]
      exact h
    refine two_ r h' fun d1 d2 v1 v2 H1 H2 s1 s2 r1 r2 h2 => ?_
    have s12 := s1.trans s2
    refine prs_rd n2 (fun ds x => hg _ x) (r.same s12) (h2.imp s12 fun _ _ k => k) fun vs qs H3 d s3 rp hl eg hk => ?_
    exact hQ ((v1, v2) :: vs) ((d1, d2) :: qs) H3 d (s12.trans s3) (.cons ((r1.b.mono s2).mono s3) ((r2.r (by simpa using n1)).same s3) rp) (by simp [hl]) eg hk
theorem dput_ok {K : PySem.W.Frag} {cl : Nat → Addr} {H : Hp} (k : Key) {v : V} {d : D} (rv : Rep K cl P H v d) : ∀ {kvs : List (Key × V)} {vs : List D}, (kvs.map (·.1)).Nodup → Reps K cl P H (kvs.map (·.2)) vs →
    (dPut (keyD k) d (kvs.map fun p => keyD p.1) vs).1 = (putK kvs k v).map (fun p => keyD p.1) ∧ Reps K cl P H ((putK kvs k v).map (·.2)) (dPut (keyD k) d (kvs.map fun p => keyD p.1) vs).2 ∧ ((putK kvs k v).map (·.1)).Nodup
  | [], [], _, .nil => ⟨rfl, .cons rv .nil, by simp [putK]⟩
  | p :: r, e :: es, nd, .cons a q => by
    obtain ⟨n1, n2⟩ := List.nodup_cons.mp (show (p.1 :: r.map (·.1)).Nodup from nd)
    by_cases hp : p.1 = k
    · have no : ∀ x ∈ r, x.1 ≠ k := fun x hx z => n1 (by rw [hp, ← z]; exact List.mem_map_of_mem hx)
      have e1 : putK (p :: r) k v = (p.1, v) :: r := by
        unfold putK
        rw [if_pos (by simp [hp])]
        rw [List.map_cons, if_pos hp]
        congr 1
        conv => rhs; rw [← List.map_id r]
        exact List.map_congr_left fun x hx => by rw [if_neg (no x hx)]; rfl
      have e2 : dPut (keyD k) d ((p :: r).map fun p => keyD p.1) (e :: es) = (keyD p.1 :: r.map (fun p => keyD p.1), d :: es) := by
        show (if kEq (keyD p.1) (keyD k) = true then _ else _) = _
        rw [kEq_key, if_pos (decide_eq_true hp)]
      rw [e1, e2]
      exact ⟨rfl, .cons rv q, nd⟩
    · obtain ⟨i1, i2, i3⟩ := dput_ok k rv n2 q
      have e1 : putK (p :: r) k v = p :: putK r k v := by
        unfold putK
        by_cases h : (r.any fun kv => decide (kv.1 = k)) = true
        · rw [if_pos h, if_pos (by simp only [List.any_cons, h, Bool.or_true]), List.map_cons, if_neg hp]
        · rw [if_neg h, if_neg (by simp only [List.any_cons, hp, decide_false, Bool.false_or]; exact h)]
          rfl
      have e2 : dPut (keyD k) d ((p :: r).map fun p => keyD p.1) (e :: es) = (keyD p.1 :: (dPut (keyD k) d (r.map fun p => keyD p.1) es).1, e :: (dPut (keyD k) d (r.map fun p => keyD p.1) es).2) := by
        show (if kEq (keyD p.1) (keyD k) = true then _ else _) = _
        rw [kEq_key, if_neg (by simp [hp])]
      rw [e1, e2]
      refine ⟨by rw [List.map_cons, ← i1], .cons a i2, ?_⟩
      rw [List.map_cons]
      refine List.nodup_cons.mpr ⟨fun z => ?_, i3⟩
      have mem : ∀ x ∈ (putK r k v).map (·.1), x ∈ r.map (·.1) ∨ x = k := fun x hx => by
        unfold putK at hx
        split at hx
        · rw [List.map_map] at hx
          obtain ⟨y, hy, rfl⟩ := List.mem_map.mp hx
          refine .inl ?_
          have ey : (if y.1 = k then (y.1, v) else y).1 = y.1 := by split <;> rfl
          show (if y.1 = k then (y.1, v) else y).1 ∈ _
          rw [ey]
          exact List.mem_map_of_mem (f := (·.1)) hy
        · rw [List.map_append, List.mem_append] at hx
          rcases hx with hx | hx
          · exact .inl hx
          · exact .inr (by simpa using hx)
      rcases mem _ z with z | z
      · exact n1 z
      · exact hp z
theorem dctD_ok {H : Hp} : ∀ {ps : List (V × V)} {qs : List (D × D)} {kvs0 : List (Key × V)} {vs0 : List D} {d : D}, PrR E P H ps qs → (kvs0.map (·.1)).Nodup → Reps E.K E.cl P H (kvs0.map (·.2)) vs0 →
    dctD (flatP qs) (kvs0.map fun p => keyD p.1) vs0 = .ok d → ∃ kvs vs, ps = kvs.map (fun kv => (kV kv.1, kv.2)) ∧ d = .dic ((mergeK kvs0 kvs).map fun p => keyD p.1) vs ∧ ((mergeK kvs0 kvs).map (·.1)).Nodup ∧ Reps E.K E.cl P H ((mergeK kvs0 kvs).map (·.2)) vs
  | _, _, kvs0, vs0, d, .nil, nd, rs, e => by cases e; exact ⟨[], vs0, rfl, rfl, nd, rs⟩
  | _, _, kvs0, vs0, d, .cons (k := k) (v := v) (dk := dk) (dv := dv) (ps := ps) (qs := qs) a b r, nd, rs, e => by
    have e' : (if isKey dk then (let q := dPut dk dv (kvs0.map fun p => keyD p.1) vs0; dctD (flatP qs) q.1 q.2) else .no) = .ok d := e
    cases hk : isKey dk with
    | false => rw [hk] at e'; cases e'
    | true =>
      rw [hk] at e'
      obtain ⟨kk, rfl⟩ := isKey_of hk
      have ek := repB_key a
      subst ek
      obtain ⟨i1, i2, i3⟩ := dput_ok kk b nd rs
      have e2 : dctD (flatP qs) ((putK kvs0 kk v).map fun p => keyD p.1) (dPut (keyD kk) dv (kvs0.map fun p => keyD p.1) vs0).2 = .ok d := by rw [← i1]; exact e'
      obtain ⟨kvs, vs, h1, h2, h3, h4⟩ := dctD_ok r i3 i2 e2
      exact ⟨(kk, v) :: kvs, vs, by rw [h1]; rfl, h2, h3, h4⟩
theorem flatP_len : ∀ qs : List (D × D), (flatP qs).length = 2 * qs.length
  | [] => rfl
  | _ :: r => by show (flatP r).length + 1 + 1 = 2 * (r.length + 1); rw [flatP_len r]; omega
theorem nx_noex {α : Type} (r : R α) (x : Xc) : nx r ≠ .ex x := by cases r <;> exact fun z => nomatch z
theorem s_disp {ps : List (Ex × Ex)} {keys : List (Option Expr)} {values : List Expr} (hn : prsOk ps = true) (hp : PPs X pos keys values (ps.map fun p => (tE E W p.1, tE E W p.2))) (hall : keys.all (·.isSome) = true) (hl : keys.length = values.length) (h0 : keys ≠ [])
    (h15 : keys.length ≤ 15) : PE X (.Dict keys values pos) (tE E W (.dct (prs ps))) := by
  refine PE.to (pe_disp hp hall hl h0 h15) fun σ H Q h => ?_
  obtain ⟨st, P, r, h⟩ := h
  intro p hpn
  have s0 : Sm E H (upd H p (.dK [])) := same_upd hpn
  have hw : ∀ a, (P a ∨ a = p) → P a ∨ H a = none := fun a z => z.imp id fun e => by rw [e]; exact hpn
  have hdm : DomP (fun a => P a ∨ a = p) (upd H p (.dK [])) := fun a z => by
    rcases z with z | z
    · exact (r.dom.same s0) a z
    · rw [z, upd_same]; exact fun z => nomatch z
  refine prs_rd (P := fun a => P a ∨ a = p) (g := fun ds => (chk (decide (ds.length ≤ 30)) ()).bind fun _ => nx (dctD ds [] [])) hn (fun ds x => ?_) (r.widen hw s0 hdm (r.tab.keep (same_upd0 hpn))) (Aft.wide (fun a z => .inl z) (Aft.imp h s0 fun _ _ k => k)) fun vs qs H1 d s1 rp hl eg hk => ?_
  · show (chk _ ()).bind _ ≠ _
    cases decide (ds.length ≤ 30) with
    | true => exact nx_noex _ x
    | false => exact fun z => nomatch z
  · obtain ⟨_, hc, eg⟩ := bind_ok eg
    obtain ⟨hc, _⟩ := chk_ok hc
    have eg2 : dctD (flatP qs) [] [] = .ok d := by
      cases e : dctD (flatP qs) [] [] with
      | ok d' => rw [e] at eg; exact eg
      | ex x => rw [e] at eg; cases eg
      | no => rw [e] at eg; cases eg
    have hp1 : H1 p = some (.dK []) := s1.get p _ upd_same (fun _ z => nomatch z)
    obtain ⟨kvs, ws, e1, rfl, nd, rs⟩ := dctD_ok (kvs0 := []) (vs0 := []) rp (by simp) .nil eg2
    have hlen : kvs.length ≤ 15 := by
      have z1 : vs.length = qs.length := by
        exact rp.len
      have z2 := flatP_len qs
      have z3 := of_decide_eq_true hc
      have z4 : vs.length = kvs.length := by rw [e1, List.length_map]
      omega
    refine ⟨hp1, kvs, e1, hlen, ?_⟩
    have s2 : Sm E H (upd H1 p (.dK (mergeK [] kvs))) := (s0.trans s1).updC hpn hp1 (.inr ⟨_, rfl⟩)
    have nP : ¬ P p := fun z => r.dom p z hpn
    have rs2 : Reps E.K E.cl (fun a => P a ∨ a = p) (upd H1 p (.dK (mergeK [] kvs))) ((mergeK [] kvs).map (·.2)) ws := by
      refine rs.mono fun b o hb _ e => ?_
      rw [upd_ne fun z => hb (.inr z)]
      exact e
    have ow : OwnAt E.K E.cl (fun a => P a ∨ a = p) (upd H1 p (.dK (mergeK [] kvs))) p (.dic ((mergeK [] kvs).map fun p => keyD p.1) ws) := ⟨_, upd_same, nd, rfl, rs2⟩
    exact hk _ _ s2 (.ans rfl ⟨(ow.anti fun a z => .inl z).rep nP, fun _ => ⟨p, rfl, hpn, ow⟩⟩ (Sm.refl H))
theorem s_dnew : PE X (.Dict [] [] pos) (tE E W (.dct .nil)) := by
  refine PE.to pe_dnewK fun σ H Q h => ?_
  obtain ⟨st, P, r, h⟩ := h
  intro p hp
  have o : OwnAt E.K E.cl (fun a => P a ∨ a = p) (upd H p (.dK [])) p (.dic [] []) := ⟨[], upd_same, by simp, rfl, .nil⟩
  have nP : ¬ P p := fun z => r.dom p z hp
  exact (show ∀ v H', Sm E H H' → RepX E P (.dct .nil) H H' v (.dic [] []) → Q v H' from h) _ _ (same_upd hp) (.ans rfl ⟨(o.anti fun a z => .inl z).rep nP, fun _ => ⟨p, rfl, hp, o⟩⟩ (Sm.refl H))
end
end Z

/-! Zc: what loops walk; targets; list comprehensions. -/
namespace Z
open PySem PySem.Spec PyProof.Rows L2
def Keeps (P : Addr → Prop) (H H' : Hp) : Prop := ∀ b o, ¬ P b → NT o → H b = some o → H' b = some o
/-- no borrowed thing is walked -/
def nbI : Ex → Bool
  | .sSeq x => !isB x
  | .sEnum x => !isB x
  | .sZip x y => !isB x && !isB y
  | .sRng _ _ => true
  | _ => false
section
variable (E : En)
def ItD (P Pk : Addr → Prop) (H0 : Hp) (J : It) (ds : List D) : Prop := ∃ G Y, Walk J ds.length G Y ∧ (∀ H, Keeps Pk H0 H → G H) ∧
  ∀ (P' : Addr → Prop) i H x H', i < ds.length → (∀ a, P' a → P a ∨ H0 a = none) → Keeps Pk H0 H → DomP P' H → Y i H x H' → Sm E H H' ∧ ∃ d, ds[i]? = some d ∧ Rep E.K E.cl P' H' x d
def pkI (P : Addr → Prop) (ir : Ex) : Addr → Prop := if nbI ir = true then P else fun _ => False
def tI (W : WX) (ir : Ex) : TI := fun σ H R => ∃ st P, Rl E P st σ H ∧ Aft E W P σ H (evI E.G ir st) fun ds => ∀ J H', Sm E H H' → ItD E P (pkI P ir) H' J ds → R J H'
end
section
variable {E : En} {W : WX} {X : Cx} {a b c tg : Expr} {x y z : Ex} {pos : Pos} {P Pk : Addr → Prop}
def iSeq (K : PySem.W.Frag) (tl : TE) : TI := fun σ H R => tl σ H fun x H1 => ∃ a, x = .ref a ∧ ((∃ xs, SqL K H1 a xs) ∧ R (Itl K a) H1 ∨ (∃ xs, SqT K H1 a xs) ∧ R (Itt K a) H1)
theorem pi_seq {l : Expr} {tl : TE} (hl : PE X l tl) : PI X tg l (iSeq X.K tl) := by
  refine ⟨fun pins s σ H R I h => ?_⟩
  refine thn (hl.run pins s σ H _ I h) fun v s1 ⟨x, H1, I1, r1, q1⟩ => ?_
  obtain ⟨a, e, q⟩ := q1
  subst e
  cases r1
  have fin : ∀ b, b ∈ [s1.heap.objs.size] → FpOk X pins H1 b := fun b hb => by
    have e : b = s1.heap.objs.size := by simpa using hb
    subst e
    exact I1.fpOk (Nat.le_refl _) (I1.hok.fresh (Nat.le_refl _))
  rcases q with ⟨⟨xs, hq⟩, q⟩ | ⟨⟨xs, hq⟩, q⟩
  · obtain ⟨its, rv, p, hz⟩ := I1.list hq
    refine wpAny_pyIter_list p.isList ?_
    exact ⟨s1.heap.objs.size, [s1.heap.objs.size], _, _, H1, rfl, I1.kept (t' := s1.toks) fun b o e => Heap.get?_push_of_some _ e, turn_list a _, ⟨_, Heap.get?_push_size _ rfl, rfl, rfl⟩, fin, q⟩
  · obtain ⟨its, rv, p, hz⟩ := I1.tuple hq
    refine wpAny_pyIter_tuple (show s1.heap.IsTuple a its.toArray from p) ?_
    exact ⟨s1.heap.objs.size, [s1.heap.objs.size], _, _, H1, rfl, I1.kept (t' := s1.toks) fun b o e => Heap.get?_push_of_some _ e, turn_tuple a _, ⟨_, Heap.get?_push_size _ rfl, rfl, rfl⟩, fin, q⟩
theorem Rep.into {P' : Addr → Prop} {H H' : Hp} (hk : Keeps Pk H H') (hs : ∀ a, Pk a → P a) (hp : ∀ a, P' a → P a ∨ H a = none) {v : V} {d : D} (r : Rep E.K E.cl P H v d) : Rep E.K E.cl P' H' v d :=
  ((r.widen (P' := fun a => P a ∨ P' a) fun a z => z.elim .inl (hp a)).mono fun b o n t e => hk b o (fun z => n (.inl (hs b z))) t e).anti fun a z => .inr z
theorem Reps.into {P' : Addr → Prop} {H H' : Hp} (hk : Keeps Pk H H') (hs : ∀ a, Pk a → P a) (hp : ∀ a, P' a → P a ∨ H a = none) {v : List V} {d : List D} (r : Reps E.K E.cl P H v d) : Reps E.K E.cl P' H' v d :=
  ((r.widen (P' := fun a => P a ∨ P' a) fun a z => z.elim .inl (hp a)).mono fun b o n t e => hk b o (fun z => n (.inl (hs b z))) t e).anti fun a z => .inr z
theorem Reps.keep {H H' : Hp} (hk : Keeps Pk H H') (hs : ∀ a, Pk a → P a) {vs : List V} {ds : List D} (r : Reps E.K E.cl P H vs ds) : Reps E.K E.cl P H' vs ds := r.mono fun b o n t e => hk b o (fun z => n (hs b z)) t e
/-- a list or a tuple that stays -/
def SqD (E : En) (Pk : Addr → Prop) (H : Hp) (a : Addr) (xs : List V) : Prop := (Rd H a (.lst xs) ∧ ¬ Pk a) ∨ TupAt E.K Pk H a xs
theorem sq_of {v : V} {d : D} {ds : List D} {H H1 : Hp} {ir : Ex} (hs : ∀ a, Pk a → P a) (hb : isB ir = true → ∀ a, ¬ Pk a) (r : RepX E P ir H H1 v d) (h : seqD d = .ok ds) : ∃ a xs, v = .ref a ∧ SqD E Pk H1 a xs ∧ Reps E.K E.cl P H1 xs ds := by
  cases d with
  | lst es =>
    cases h
    cases hi : isB ir with
    | true =>
      obtain ⟨a, xs, e, ra, q⟩ := r.b.lst
      exact ⟨a, xs, e, .inl ⟨ra, hb hi a⟩, q⟩
    | false =>
      have := r.r hi
      cases this with
      | lst t q => exact ⟨_, _, rfl, .inl ⟨t.1, fun z => t.2 (hs _ z)⟩, q⟩
  | tup es =>
    cases h
    obtain ⟨a, xs, e, ra, q⟩ := r.b.tup
    exact ⟨a, xs, e, .inr (ra.anti hs), q⟩
  | _ => cases h
theorem SqD.keep {H H' : Hp} {a : Addr} {xs : List V} (hk : Keeps Pk H H') (q : SqD E Pk H a xs) : SqD E Pk H' a xs := by
  rcases q with ⟨r, n⟩ | t
  · exact .inl ⟨rd_mono (fun o t e => hk a o n t e) r, n⟩
  · exact .inr (t.mono fun b o n t e => hk b o n t e)
theorem pk_sub (ir : Ex) : ∀ a, pkI P ir a → P a := fun a z => by
  unfold pkI at z
  split at z
  · exact z
  · exact z.elim
theorem pk_no {ir : Ex} (h : nbI ir = false) : ∀ a, ¬ pkI P ir a := fun a z => by
  unfold pkI at z
  rw [h] at z
  exact z
theorem sqL_of {v : V} {ds : List D} {H H1 : Hp} {ir : Ex} (hs : ∀ a, Pk a → P a) (hb : isB ir = true → ∀ a, ¬ Pk a) (r : RepX E P ir H H1 v (.lst ds)) : ∃ a xs, v = .ref a ∧ Rd H1 a (.lst xs) ∧ ¬ Pk a ∧ Reps E.K E.cl P H1 xs ds := by
  cases hi : isB ir with
  | true =>
    obtain ⟨a, xs, e, ra, q⟩ := r.b.lst
    exact ⟨a, xs, e, ra, hb hi a, q⟩
  | false =>
    have := r.r hi
    cases this with
    | lst t q => exact ⟨_, _, rfl, t.1, fun z => t.2 (hs _ z), q⟩
theorem itd_at {H0 : Hp} {J : It} {xs : List V} {ds : List D} {G : Hp → Prop} (w : Walk J xs.length G (YAt xs)) (hs : ∀ a, Pk a → P a) (hG : ∀ H, Keeps Pk H0 H → G H) (r : Reps E.K E.cl P H0 xs ds) : ItD E P Pk H0 J ds := by
  refine ⟨G, YAt xs, by rw [← r.length]; exact w, hG, fun P' i H x H' hi hp hk hd y => ?_⟩
  obtain ⟨rfl, e⟩ := y
  refine ⟨Sm.refl _, ?_⟩
  obtain ⟨d, h1, h2⟩ := (r.into hk hs hp).getV e
  exact ⟨d, h1, h2⟩
theorem s_iseq (hK : X.K = E.K) (ha : PE X a (tE E W x)) : PI X tg a (tI E W (.sSeq x)) := by
  refine PI.to (pi_seq ha) fun σ H R h => ?_
  obtain ⟨st, P, r, h⟩ := h
  refine one_ r (show Aft E W P σ H ((ev E.G x st).bind seqD) _ from h) fun d v H1 s1 r1 h1 => ?_
  cases e : seqD d with
  | ok ds =>
    rw [e] at h1
    have h2 : ∀ J H', Sm E H H' → ItD E P (pkI P (.sSeq x)) H' J ds → R J H' := h1
    obtain ⟨a, xs, rfl, q, rs⟩ := sq_of (Pk := pkI P (.sSeq x)) (pk_sub _) (fun hb => pk_no (show (!isB x) = false by rw [hb]; rfl)) r1 e
    refine ⟨a, rfl, ?_⟩
    rcases q with ⟨ra, n⟩ | t
    · exact .inl ⟨⟨xs, .inl ra⟩, by rw [hK]; exact h2 _ H1 s1 (itd_at walk_list (pk_sub _) (fun H hk => .inl (rd_mono (fun o t e => hk a o n t e) ra)) rs)⟩
    · exact .inr ⟨⟨xs, by rw [hK]; exact t.sq⟩, by rw [hK]; exact h2 _ H1 s1 (itd_at walk_tup (pk_sub _) (fun H hk => (t.mono fun b o n t e => hk b o n t e).sq) rs)⟩
  | ex xx => cases d <;> cases e
  | no => rw [e] at h1; exact h1.elim
/-- pairs -/
theorem itd_pair {H0 : Hp} {J : It} {n : Nat} {f g : Nat → Option V} {ds : List D} {G : Hp → Prop} (w : Walk J n G (YPair f g)) (hs : ∀ a, Pk a → P a) (hG : ∀ H, Keeps Pk H0 H → G H) (hn : ds.length = n)
    (hd : ∀ i v w, f i = some v → g i = some w → i < n → ∃ d e, ds[i]? = some (.tup [d, e]) ∧ Rep E.K E.cl P H0 v d ∧ Rep E.K E.cl P H0 w e) : ItD E P Pk H0 J ds := by
  refine ⟨G, YPair f g, by rw [hn]; exact w, hG, fun P' i H x H' hi hp hk hdm y => ?_⟩
  obtain ⟨T, v, w, rfl, hT, rfl, e1, e2⟩ := y
  obtain ⟨d, e, h1, h2, h3⟩ := hd i v w e1 e2 (by omega)
  have s : Sm E H (upd H T (.tup [v, w])) := same_upd hT
  refine ⟨s, _, h1, .tup (.inl ⟨.inl upd_same, hdm.not hT⟩) ?_⟩
  exact .cons ((h2.into hk hs hp).same s) (.cons ((h3.into hk hs hp).same s) .nil)
theorem enumD_len : ∀ (n : Nat) (ds : List D), (enumD n ds).length = ds.length
  | _, [] => rfl
  | n, d :: ds => by show (enumD (n + 1) ds).length + 1 = _; rw [enumD_len (n + 1) ds]; rfl
theorem enumD_get : ∀ (n : Nat) (ds : List D) (i : Nat) (d : D), ds[i]? = some d → (enumD n ds)[i]? = some (.tup [.int ((n + i : Nat) : Int), d])
  | _, [], i, d, h => by simp at h
  | n, e :: ds, 0, d, h => by simp at h; subst h; rfl
  | n, e :: ds, i + 1, d, h => by
    show (enumD (n + 1) ds)[i]? = _
    rw [enumD_get (n + 1) ds i d (by simpa using h), show n + 1 + i = n + (i + 1) by omega]
theorem s_ienum {p tpos : Pos} {elts : List Expr} {kk : Nat} (hK : X.K = E.K) (hg : Gl X "enumerate") (hm : X.mg "enumerate" = none) (ha : PE X a (tE E W x)) (hs : starEach [a] X.env = [(false, eval a X.env)]) :
    PI X (.Tuple elts kk tpos) (.Call (.Name "enumerate" p) [a] [] pos) (tI E W (.sEnum x)) := by
  refine PI.to (pi_enumA hg hm (pa_cons ha pa_nil hs) hs) fun σ H R h => ?_
  obtain ⟨st, P, r, h⟩ := h
  refine one_ r (show Aft E W P σ H ((ev E.G x st).bind fun a => (seqD a).bind fun ds => .ok (enumD 0 ds)) _ from h) fun d v H1 s1 r1 h1 => ?_
  cases e : seqD d with
  | ok ds =>
    rw [e] at h1
    have h2 : ∀ J H', Sm E H H' → ItD E P (pkI P (.sEnum x)) H' J (enumD 0 ds) → R J H' := h1
    obtain ⟨a, xs, rfl, q, rs⟩ := sq_of (Pk := pkI P (.sEnum x)) (pk_sub _) (fun hb => pk_no (show (!isB x) = false by rw [hb]; rfl)) r1 e
    have pr : ∀ i v w, some (V.int ((i : Nat) : Int)) = some v → xs[i]? = some w → i < xs.length → ∃ d e, (enumD 0 ds)[i]? = some (.tup [d, e]) ∧ Rep E.K E.cl P H1 v d ∧ Rep E.K E.cl P H1 w e := fun i v w e1 e2 _ => by
      cases e1
      obtain ⟨d, h3, h4⟩ := rs.getV e2
      exact ⟨_, _, enumD_get 0 ds i d h3, by rw [Nat.zero_add]; exact .int _, h4⟩
    have hl : (enumD 0 ds).length = xs.length := by rw [enumD_len, rs.length]
    refine ⟨a, xs, rfl, ?_⟩
    rcases q with ⟨ra, n⟩ | t
    · exact .inl ⟨.inl ra, by rw [hK]; exact h2 _ H1 s1 (itd_pair walk_enum (pk_sub _) (fun H hk => .inl (rd_mono (fun o t e => hk a o n t e) ra)) hl pr)⟩
    · exact .inr ⟨by rw [hK]; exact t.sq, by rw [hK]; exact h2 _ H1 s1 (itd_pair walk_enumT (pk_sub _) (fun H hk => (t.mono fun b o n t e => hk b o n t e).sq) hl pr)⟩
  | ex xx => cases d <;> cases e
  | no => rw [e] at h1; exact h1.elim
theorem zipD_len : ∀ (ds es : List D), (zipD ds es).length = min ds.length es.length
  | [], es => by simp [zipD]
  | d :: ds, [] => by simp [zipD]
  | d :: ds, e :: es => by show (zipD ds es).length + 1 = _; rw [zipD_len ds es]; simp only [List.length_cons]; omega
theorem zipD_get : ∀ (ds es : List D) (i : Nat) (d e : D), ds[i]? = some d → es[i]? = some e → (zipD ds es)[i]? = some (.tup [d, e])
  | [], _, i, d, e, h, _ => by simp at h
  | _ :: _, [], i, d, e, _, h => by simp at h
  | d' :: ds, e' :: es, 0, d, e, h1, h2 => by simp at h1 h2; subst h1; subst h2; rfl
  | d' :: ds, e' :: es, i + 1, d, e, h1, h2 => by
    show (zipD ds es)[i]? = _
    exact zipD_get ds es i d e (by simpa using h1) (by simpa using h2)
theorem s_izip {p tpos : Pos} {elts : List Expr} {kk : Nat} (hK : X.K = E.K) (hg : Gl X "zip") (hm : X.mg "zip" = none) (ha : PE X a (tE E W x)) (hb : PE X b (tE E W y)) (hs : starEach [a, b] X.env = [(false, eval a X.env), (false, eval b X.env)]) (hs2 : starEach [b] X.env = [(false, eval b X.env)])
    (hpl : (backTo pos (starEach [b] X.env)).any (·.1) = false) : PI X (.Tuple elts kk tpos) (.Call (.Name "zip" p) [a, b] [] pos) (tI E W (.sZip x y)) := by
  refine PI.to (RZ.pi_zipA hg hm (pa_cons ha (pa_cons hb pa_nil hs2) (by rw [hs, hs2])) (by rw [hs, hs2]) hpl) fun σ H R h => ?_
  obtain ⟨st, P, r, h⟩ := h
  have h0 : Aft E W P σ H ((ev E.G x st).bind fun a => (ev E.G y st).bind fun b => zipDD a b) fun ds => ∀ J H', Sm E H H' → ItD E P (pkI P (.sZip x y)) H' J ds → R J H' := h
  refine two_ (Q := fun v w H2 => ∃ a b xs ys, [v, w] = [.ref a, .ref b] ∧ ((SqL X.K H2 a xs ∧ SqL X.K H2 b ys ∧ R (Itz X.K a b) H2) ∨ (SqT X.K H2 a xs ∧ SqT X.K H2 b ys ∧ R (RZ.ItzT X.K a b) H2))) r h0 fun d1 d2 v1 v2 H1 H2 s1 s2 r1 r2 h2 => ?_
  have hbx : isB x = true → ∀ a, ¬ pkI P (.sZip x y) a := fun hb => pk_no (show (!isB x && !isB y) = false by rw [hb]; rfl)
  have hby : isB y = true → ∀ a, ¬ pkI P (.sZip x y) a := fun hb => pk_no (show (!isB x && !isB y) = false by rw [hb]; exact Bool.and_false _)
  have pr : ∀ {xs ys : List V} {ds es : List D}, Reps E.K E.cl P H2 xs ds → Reps E.K E.cl P H2 ys es → ∀ i v w, xs[i]? = some v → ys[i]? = some w → i < min xs.length ys.length → ∃ d e, (zipD ds es)[i]? = some (.tup [d, e]) ∧ Rep E.K E.cl P H2 v d ∧ Rep E.K E.cl P H2 w e := fun {xs ys ds es} p1 p2 i v w e1 e2 _ => by
    obtain ⟨d, h3, h4⟩ := p1.getV e1
    obtain ⟨e, h5, h6⟩ := p2.getV e2
    exact ⟨d, e, zipD_get ds es i d e h3 h5, h4, h6⟩
  have s12 := s1.trans s2
  have kp1 : Keeps (pkI P (.sZip x y)) H1 H2 := fun b o _ n e => s2.get b o e n
  cases d1 with
  | lst ds =>
    cases d2 with
    | lst es =>
      have h3 : ∀ J H', Sm E H H' → ItD E P (pkI P (.sZip x y)) H' J (zipD ds es) → R J H' := h2
      obtain ⟨a, xs, rfl, ra, na, p1⟩ := sqL_of (Pk := pkI P (.sZip x y)) (pk_sub _) hbx r1
      obtain ⟨b, ys, rfl, rb', nb, p2⟩ := sqL_of (Pk := pkI P (.sZip x y)) (pk_sub _) hby r2
      have ra2 : Rd H2 a (.lst xs) := rd_mono (fun o n e => s2.get a o e n) ra
      refine ⟨a, b, xs, ys, rfl, .inl ⟨.inl ra2, .inl rb', ?_⟩⟩
      rw [hK]
      exact h3 _ H2 s12 (itd_pair (walk_zip rfl) (pk_sub _) (fun H hk => ⟨.inl (rd_mono (fun o t e => hk a o na t e) ra2), .inl (rd_mono (fun o t e => hk b o nb t e) rb')⟩) (by rw [zipD_len, p1.length, p2.length]) (pr (p1.same s2) p2))
    | _ => exact (show False from h2).elim
  | tup ds =>
    cases d2 with
    | tup es =>
      have h3 : ∀ J H', Sm E H H' → ItD E P (pkI P (.sZip x y)) H' J (zipD ds es) → R J H' := h2
      obtain ⟨a, xs, rfl, t1, p1⟩ := r1.b.tup
      obtain ⟨b, ys, rfl, t2, p2⟩ := r2.b.tup
      have t1' := (t1.mono fun b o _ n e => s2.get b o e n).anti (pk_sub (P := P) (.sZip x y))
      have t2' := t2.anti (pk_sub (P := P) (.sZip x y))
      refine ⟨a, b, xs, ys, rfl, .inr ⟨by rw [hK]; exact t1'.sq, by rw [hK]; exact t2'.sq, ?_⟩⟩
      rw [hK]
      exact h3 _ H2 s12 (itd_pair (walk_zipT rfl) (pk_sub _) (fun H hk => ⟨(t1'.mono fun b o n t e => hk b o n t e).sq, (t2'.mono fun b o n t e => hk b o n t e).sq⟩) (by rw [zipD_len, p1.length, p2.length]) (pr (p1.same s2) p2))
    | _ => exact (show False from h2).elim
  | _ => cases d2 <;> exact (show False from h2).elim
/-! ### ranges -/
theorem itd_fn {H0 : Hp} {J : It} {lo : Int} {n : Nat} (w : Walk J n (fun _ => True) (YFn fun i => .int (lo + i))) : ItD E P Pk H0 J (rngD lo n) := by
  have hl : (rngD lo n).length = n := by unfold rngD; simp
  refine ⟨_, _, by rw [hl]; exact w, fun _ _ => True.intro, fun P' i H x H' hi hp hk hd y => ?_⟩
  obtain ⟨rfl, rfl⟩ := y
  rw [hl] at hi
  exact ⟨Sm.refl _, .int (lo + i), by unfold rngD; simp [hi], .int _⟩
def okR (i j : Int) : Bool := decide (-(2 ^ 62) ≤ i) && decide (i < 2 ^ 62) && decide (-(2 ^ 62) ≤ j) && decide (j < 2 ^ 62)
theorem okR_of {i j : Int} (h : okR i j = true) : -(2 ^ 62) ≤ i ∧ i < 2 ^ 62 ∧ -(2 ^ 62) ≤ j ∧ j < 2 ^ 62 := by
  unfold okR at h
  simp only [Bool.and_eq_true, decide_eq_true_eq] at h
  exact ⟨h.1.1.1, h.1.1.2, h.1.2, h.2⟩
theorem s_irng1 {p : Pos} (hg : Gl X "range") (hm : X.mg "range" = none) (ha : PE X a (tE E W x)) (hs : starEach [a] X.env = [(false, eval a X.env)]) : PI X tg (.Call (.Name "range" p) [a] [] pos) (tI E W (.sRng (.k (.int 0)) x)) := by
  refine PI.to (pi_range1 hg hm (pa_cons ha pa_nil hs) hs) fun σ H R h => ?_
  obtain ⟨st, P, r, h⟩ := h
  refine one_ r (show Aft E W P σ H ((ev E.G x st).bind fun b => match D.int 0, b with
    | .int i, .int j => chk (okR i j) (rngD i (j - i).toNat)
    | _, _ => .no) _ from h) fun d v H1 s1 r1 h1 => ?_
  cases d with
  | int j =>
    cases r1.b.int
    cases hc : okR 0 j with
    | false => simp only [hc] at h1; exact (show False from h1).elim
    | true =>
      simp only [hc] at h1
      obtain ⟨_, _, c3, c4⟩ := okR_of hc
      refine ⟨j, rfl, c3, c4, ?_⟩
      have h2 := (show ∀ J H', Sm E H H' → ItD E P (pkI P (.sRng (.k (.int 0)) x)) H' J (rngD 0 (j - 0).toNat) → R J H' from h1) (Itr 0 j.toNat) H1 s1
      rw [Int.sub_zero] at h2
      exact h2 (itd_fn walk_range)
  | _ => exact (show False from h1).elim
theorem s_irng2 {p : Pos} (hg : Gl X "range") (hm : X.mg "range" = none) (ha : PE X a (tE E W x)) (hb : PE X b (tE E W y)) (hs : starEach [a, b] X.env = [(false, eval a X.env), (false, eval b X.env)]) (hs2 : starEach [b] X.env = [(false, eval b X.env)]) : PI X tg (.Call (.Name "range" p) [a, b] [] pos) (tI E W (.sRng x y)) := by
  refine PI.to (pi_range2 hg hm (pa_cons ha (pa_cons hb pa_nil hs2) (by rw [hs, hs2])) hs hs2) fun σ H R h => ?_
  obtain ⟨st, P, r, h⟩ := h
  have h0 : Aft E W P σ H ((ev E.G x st).bind fun a => (ev E.G y st).bind fun b => match a, b with
    | .int i, .int j => chk (okR i j) (rngD i (j - i).toNat)
    | _, _ => .no) fun ds => ∀ J H', Sm E H H' → ItD E P (pkI P (.sRng x y)) H' J ds → R J H' := h
  refine two_ (Q := fun v w H2 => ∃ i j : Int, [v, w] = [.int i, .int j] ∧ (-(2 ^ 62) ≤ i ∧ i < 2 ^ 62 ∧ -(2 ^ 62) ≤ j ∧ j < 2 ^ 62) ∧ R (Itr i (j - i).toNat) H2) r h0 fun d1 d2 v1 v2 H1 H2 s1 s2 r1 r2 h2 => ?_
  cases d1 with
  | int i =>
    cases d2 with
    | int j =>
      cases r1.b.int
      cases r2.b.int
      cases hc : okR i j with
      | false => simp only [hc] at h2; exact (show False from h2).elim
      | true =>
        simp only [hc] at h2
        exact ⟨i, j, rfl, okR_of hc, (show ∀ J H', Sm E H H' → ItD E P (pkI P (.sRng x y)) H' J (rngD i (j - i).toNat) → R J H' from h2) _ H2 (s1.trans s2) (itd_fn walk_range)⟩
    | _ => exact (show False from h2).elim
  | _ => cases d2 <;> exact (show False from h2).elim
/-! ### targets -/
def tgS : Tg → List Nat
  | .nm i => [i]
  | .tp t => tgS t
  | .nil => []
  | .cons a r => tgS a ++ tgS r
def tgN : Tg → Nat
  | .cons _ r => tgN r + 1
  | _ => 0
mutual
def gOf (K : PySem.W.Frag) : Tg → TG
  | .nm i => gName i
  | .tp t => gTup K (tgN t) (gsOf K t)
  | _ => fun _ _ _ _ => False
def gsOf (K : PySem.W.Frag) : Tg → TGs
  | .nil => gNil
  | .cons a r => gCons (gOf K a) (gsOf K r)
  | _ => fun _ _ _ _ => False
end
def Up (E : En) (P : Addr → Prop) (H : Hp) (S : List Nat) (st st' : Sl) (σ σ' : L2.St) : Prop := σ'.length = σ.length ∧ st'.length = st.length ∧ ∀ i : Nat, (i ∉ S ∧ σ'[i]? = σ[i]? ∧ st'[i]? = st[i]?) ∨ (i ∈ S ∧ ∃ d v, st'[i]? = some (some (.val d)) ∧ σ'[i]? = some (some v) ∧ Rep E.K E.cl P H v d)
theorem Up.one {H : Hp} {st : Sl} {σ : L2.St} {i : Nat} {v : V} {d : D} (hl : σ.length = st.length) (hi : i < st.length) (r : Rep E.K E.cl P H v d) : Up E P H [i] st (st.set i (some (.val d))) σ (σ.set i (some v)) := by
  refine ⟨by simp, by simp, fun j => ?_⟩
  by_cases h : j = i
  · subst h
    exact .inr ⟨by simp, d, v, by simp [hi], by simp [hl, hi], r⟩
  · exact .inl ⟨by simpa using h, List.getElem?_set_ne (fun z => h z.symm), List.getElem?_set_ne (fun z => h z.symm)⟩
theorem Up.trans {H : Hp} {S T : List Nat} {s1 s2 s3 : Sl} {σ1 σ2 σ3 : L2.St} (u : Up E P H S s1 s2 σ1 σ2) (w : Up E P H T s2 s3 σ2 σ3) : Up E P H (S ++ T) s1 s3 σ1 σ3 := by
  refine ⟨w.1.trans u.1, w.2.1.trans u.2.1, fun i => ?_⟩
  rcases w.2.2 i with ⟨n, e1, e2⟩ | ⟨m, q⟩
  · rcases u.2.2 i with ⟨n', e1', e2'⟩ | ⟨m', d, v, q1, q2, q3⟩
    · exact .inl ⟨by simp [n, n'], e1.trans e1', e2.trans e2'⟩
    · exact .inr ⟨by simp [m'], d, v, e2.trans q1, e1.trans q2, q3⟩
  · exact .inr ⟨by simp [m], q⟩
theorem bindTs_len : ∀ {t : Tg} {ds : List D} {st st' : Sl}, bindTs t ds st = some st' → ds.length = tgN t
  | .nil, [], _, _, _ => rfl
  | .cons a r, d :: ds, st, st', h => by
    obtain ⟨st1, h1, h2⟩ := Option.bind_eq_some_iff.mp (show (bindT a d st).bind (bindTs r ds) = some st' from h)
    show ds.length + 1 = tgN r + 1
    rw [bindTs_len h2]
  | .nil, _ :: _, _, _, h => by cases h
  | .cons _ _, [], _, _, h => by cases h
  | .nm _, _, _, _, h => by cases h
  | .tp _, _, _, _, h => by cases h
mutual
theorem gof_ok {H : Hp} : ∀ {t : Tg} {v : V} {d : D} {st st' : Sl} {σ : L2.St} {Q : L2.St → Hp → Prop}, Rep E.K E.cl P H v d → bindT t d st = some st' → σ.length = st.length → (∀ σ', Up E P H (tgS t) st st' σ σ' → Q σ' H) → gOf E.K t v σ H Q
  | .nm i, v, d, st, st', σ, Q, r, h, hl, hQ => by
    have h' : (if i < st.length then some (st.set i (some (.val d))) else none) = some st' := h
    split at h'
    · rename_i hi
      cases h'
      exact hQ _ (.one hl hi r)
    · cases h'
  | .tp t, v, d, st, st', σ, Q, r, h, hl, hQ => by
    cases d with
    | tup ds =>
      cases r with
      | tup ta rs =>
        rename_i a xs
        have h' : bindTs t ds st = some st' := h
        exact ⟨a, xs, rfl, ta.sq, by rw [rs.length]; exact bindTs_len h', gsof_ok rs h' hl hQ⟩
    | _ => cases h
  | .nil, v, d, st, st', σ, Q, r, h, hl, hQ => by cases d <;> cases h
  | .cons _ _, v, d, st, st', σ, Q, r, h, hl, hQ => by cases d <;> cases h
theorem gsof_ok {H : Hp} : ∀ {t : Tg} {vs : List V} {ds : List D} {st st' : Sl} {σ : L2.St} {Q : L2.St → Hp → Prop}, Reps E.K E.cl P H vs ds → bindTs t ds st = some st' → σ.length = st.length → (∀ σ', Up E P H (tgS t) st st' σ σ' → Q σ' H) → gsOf E.K t vs σ H Q
  | .nil, vs, ds, st, st', σ, Q, r, h, hl, hQ => by
    cases r with
    | nil => cases h; exact ⟨rfl, hQ σ ⟨rfl, rfl, fun i => .inl ⟨by simp [tgS], rfl, rfl⟩⟩⟩
    | cons a r => cases h
  | .cons a t, vs, ds, st, st', σ, Q, r, h, hl, hQ => by
    cases r with
    | nil => cases h
    | cons r1 r2 =>
      rename_i v vs d ds
      obtain ⟨st1, h1, h2⟩ := Option.bind_eq_some_iff.mp (show (bindT a d st).bind (bindTs t ds) = some st' from h)
      refine ⟨v, vs, rfl, gof_ok r1 h1 hl fun σ1 u1 => gsof_ok r2 h2 ?_ fun σ2 u2 => hQ σ2 (u1.trans u2)⟩
      rw [u1.1, u1.2.1, hl]
  | .nm _, vs, ds, st, st', σ, Q, r, h, hl, hQ => by cases r <;> cases h
  | .tp _, vs, ds, st, st', σ, Q, r, h, hl, hQ => by cases r <;> cases h
end
theorem Up.rl {H : Hp} {S : List Nat} {st st' : Sl} {σ σ0 σ' : L2.St} (u : Up E P H S st st' σ0 σ') (r : Rl E P st σ H) (h0 : ∀ i, i ∉ S → σ0[i]? = σ[i]?) (hl : σ0.length = σ.length) : Rl E P st' σ' H where
  dom := r.dom
  tab := r.tab
  len := by rw [u.1, u.2.1, hl, r.len]
  val := fun i d e => by
    rcases u.2.2 i with ⟨n, e1, e2⟩ | ⟨m, d', v, q1, q2, q3⟩
    · obtain ⟨v, h1, h2⟩ := r.val i d (by unfold getV at e ⊢; rw [← e2]; exact e)
      exact ⟨v, by rw [e1, h0 i n]; exact h1, h2⟩
    · unfold getV at e
      rw [q1] at e
      cases e
      exact ⟨v, q2, q3⟩
  bor := fun i d e => by
    rcases u.2.2 i with ⟨n, e1, e2⟩ | ⟨m, d', v, q1, q2, q3⟩
    · obtain ⟨v, h1, h2⟩ := r.bor i d (by unfold getB at e ⊢; rw [← e2]; exact e)
      exact ⟨v, by rw [e1, h0 i n]; exact h1, h2⟩
    · unfold getB at e
      rw [q1] at e
      cases e
      exact ⟨v, q2, .inl q3⟩
/-! ### list comprehensions -/
theorem wipe_get (σ : L2.St) (i : Nat) : ∀ vs : List Nat, (wipe σ vs)[i]? = if i ∈ vs then (σ[i]?).map (fun _ => none) else σ[i]?
  | [] => by simp [wipe]
  | v :: vs => by
    unfold wipe
    by_cases h : i = v
    · subst h
      rw [if_pos (by simp)]
      by_cases hi : i < σ.length
      · rw [List.getElem?_set_self (by rw [wipe_length]; exact hi)]
        simp [hi]
      · rw [List.getElem?_eq_none (by simp [wipe_length]; omega), List.getElem?_eq_none (by omega)]
        rfl
    · rw [List.getElem?_set_ne (fun z => h z.symm), wipe_get σ i vs]
      by_cases hm : i ∈ vs
      · rw [if_pos hm, if_pos (by simp [hm])]
      · rw [if_neg hm, if_neg (by simp [hm, h])]
theorem wipe_up {H : Hp} {S vs : List Nat} {st st' : Sl} {σ σ' : L2.St} (hs : ∀ i, i ∈ S → i ∈ vs) (u : Up E P H S st st' (wipe σ vs) σ') : wipe σ' vs = wipe σ vs := by
  refine List.ext_getElem? fun i => ?_
  rw [wipe_get, wipe_get]
  have hl : σ'.length = σ.length := by rw [u.1, wipe_length]
  by_cases hm : i ∈ vs
  · rw [if_pos hm, if_pos hm]
    by_cases hi : i < σ.length
    · rw [List.getElem?_eq_getElem hi, List.getElem?_eq_getElem (by omega)]; rfl
    · rw [List.getElem?_eq_none (by omega), List.getElem?_eq_none (by omega)]
  · rw [if_neg hm, if_neg hm]
    rcases u.2.2 i with ⟨n, e1, e2⟩ | ⟨m, _⟩
    · rw [e1, wipe_get, if_neg hm]
    · exact absurd (hs i m) hm
abbrev noW : WX := fun _ _ _ _ => False
theorem Aft.of_ok {α : Type} {σ : L2.St} {H : Hp} {r : R α} {k : α → Prop} {a : α} (e : r = .ok a) (h : k a) : Aft E W P σ H r k := by rw [e]; exact h
theorem lc_rd {t : Tg} {e cnd sq : Ex} {wi : TI} {vs : List Nat} {σ : L2.St} {H : Hp} {Q : VK} {st : Sl} (hv1 : ∀ i, i ∈ tgS t → i ∈ vs) (hv2 : ∀ i, i ∈ vs → i ∈ tgS t) (he : isB e = false) (hwi : ∀ σ H R, tI E W sq σ H R → wi σ H R) (r : Rl E P st σ H)
    (h : Aft E W P σ H (ev E.G (.lc e t sq cnd) st) fun d => ∀ v H', Sm E H H' → RepX E P (.lc e t sq cnd) H H' v d → Q v H') : tLc wi (gOf E.K t) (tT E noW cnd) (tE E noW e) vs σ H Q := by
  refine hwi _ _ _ ⟨st, P, r, Aft.one h fun xs exs h1 J H1 s1 it => ?_⟩
  intro dA hD
  cases hc : decide (xs.length ≤ 1000000) with
  | false => rw [hc] at h1; exact (show False from h1).elim
  | true =>
    rw [hc] at h1
    obtain ⟨dsF, eF, h2⟩ := (Aft.bind (show Aft E W P σ H ((nx (lcGo t (ev E.G e) (evT E.G cnd) st xs)).bind fun ds => R.ok (Z.D.lst ds)) (fun d => ∀ v H', Sm E H H' → RepX E P (.lc e t sq cnd) H H' v d → Q v H') from h1)).nx
    have hsz := of_decide_eq_true hc
    obtain ⟨G, Y, wk, hG, hY⟩ := it
    have hd0 : DomP P H1 := (r.same s1).dom
    have hw : ∀ a, (P a ∨ a = dA) → P a ∨ H1 a = none := fun a z => z.imp id fun e => by rw [e]; exact hD
    refine lc_it wk (fun i Hi => (Sm E H1 Hi ∧ Tbs (fun a => P a ∨ a = dA) E.T Hi) ∧ ∃ acc es rest, Hi dA = some (.lst acc) ∧ acc.length ≤ i ∧ Reps E.K E.cl (fun a => P a ∨ a = dA) Hi acc es ∧ lcGo t (ev E.G e) (evT E.G cnd) st (xs.drop i) = .ok rest ∧ es ++ rest = dsF) ?_ ?_ ?_ ?_
    · exact ⟨⟨same_upd hD, (r.same s1).tab.keep (same_upd0 hD)⟩, [], [], dsF, upd_same, Nat.le_refl _, .nil, eF, rfl⟩
    · rintro i Hi _ ⟨⟨sm, _⟩, _⟩
      exact hG Hi fun b o _ n q => sm.get b o q n
    · rintro i x Hi H' hi ⟨⟨sm, tb⟩, acc, es, rest, a1, a2, a3, a4, a5⟩ y
      have dDi : DomP (fun a => P a ∨ a = dA) Hi := fun a z => by
        rcases z with z | z
        · exact (hd0.same sm) a z
        · rw [z, a1]; exact fun z => nomatch z
      obtain ⟨s2, d, ed, rxD⟩ := hY (fun a => P a ∨ a = dA) i Hi x H' hi hw (fun b o _ n q => sm.get b o q n) dDi y
      have rD : Rl E (fun a => P a ∨ a = dA) st σ H' := (r.same s1).widen hw (sm.trans s2) (dDi.same s2) (s2.tab _ dDi tb)
      have hdrop : xs.drop i = d :: xs.drop (i + 1) := by
        obtain ⟨hlt, hg⟩ := List.getElem?_eq_some_iff.mp ed
        rw [← hg]
        exact List.drop_eq_getElem_cons hlt
      rw [hdrop] at a4
      have a4' : (match bindT t d st with
        | none => .no
        | some st1 => (evT E.G cnd st1).bind fun b => if b then (ev E.G e st1).bind fun d => (lcGo t (ev E.G e) (evT E.G cnd) st (xs.drop (i + 1))).bind fun ds => .ok (d :: ds) else lcGo t (ev E.G e) (evT E.G cnd) st (xs.drop (i + 1))) = R.ok rest := a4
      cases eb : bindT t d st with
      | none => rw [eb] at a4'; cases a4'
      | some st1 =>
        rw [eb] at a4'
        obtain ⟨b, e1, e2⟩ := bind_ok a4'
        refine gof_ok rxD eb (by rw [wipe_length]; exact r.len) fun σ2 u => ⟨wipe_up hv1 u, ?_⟩
        have r2 : Rl E (fun a => P a ∨ a = dA) st1 σ2 H' := u.rl rD (fun j hj => by rw [wipe_get, if_neg fun z => hj (hv2 j z)]) (wipe_length _ _)
        refine ⟨st1, _, r2, Aft.of_ok e1 fun H3 s3 => ?_⟩
        have tb2 := s2.tab _ dDi tb
        cases b with
        | true =>
          simp only [if_true]
          obtain ⟨d2, e3, e4⟩ := bind_ok (show (ev E.G e st1).bind _ = .ok rest from e2)
          obtain ⟨ds2, e5, e6⟩ := bind_ok e4
          cases e6
          refine ⟨st1, _, r2.same s3, Aft.of_ok e3 fun v H4 s4 r4 => ?_⟩
          have s34 := s3.trans s4
          have hdA : H4 dA = some (.lst acc) := s34.get dA _ (s2.get dA _ a1 (fun _ z => nomatch z)) (fun _ z => nomatch z)
          refine ⟨acc, hdA, line_lt (by omega), ⟨((sm.trans s2).trans s34).updC hD hdA (.inl ⟨_, rfl⟩), (s34.tab _ (dDi.same s2) tb2).updC hdA (.inl ⟨_, rfl⟩)⟩, acc ++ [v], es ++ [d2], ds2, upd_same, by simp; omega, ?_, e5, by rw [← a5]; simp⟩
          have k4 : ∀ b o, ¬ (P b ∨ b = dA) → NT o → H4 b = some o → (upd H4 dA (.lst (acc ++ [v]))) b = some o := fun b o nb _ q => by rw [upd_ne fun z => nb (.inr z)]; exact q
          exact ((a3.same (s2.trans s34)).mono k4).append (.cons ((r4.r he).mono k4) .nil)
        | false =>
          simp only [Bool.false_eq_true, if_false]
          exact ⟨⟨(sm.trans s2).trans s3, s3.tab _ (dDi.same s2) tb2⟩, acc, es, rest, s3.get dA _ (s2.get dA _ a1 (fun _ z => nomatch z)) (fun _ z => nomatch z), by omega, a3.same (s2.trans s3), e2, a5⟩
    · rintro Hn ⟨⟨sm, tb⟩, acc, es, rest, a1, a2, a3, a4, a5⟩
      rw [List.drop_length] at a4
      cases a4
      rw [List.append_nil] at a5
      subst a5
      have ow : OwnAt E.K E.cl (fun a => P a ∨ a = dA) Hn dA (.lst es) := ⟨acc, a1, a3⟩
      exact (show ∀ v H', Sm E H H' → RepX E P (.lc e t sq cnd) H H' v (.lst es) → Q v H' from h2) _ Hn (s1.trans sm) (.ans rfl ⟨(ow.anti fun a z => .inl z).rep (hd0.not hD), fun _ => ⟨dA, rfl, hD, ow⟩⟩ s1)
end
end Z

/-! Zs: statements. -/
namespace Z
open PySem PySem.Spec PyProof.Rows L2
section
variable (E : En)
structure RlS (P0 : Addr → Prop) (H0 : Hp) (P : Addr → Prop) (st : Sl) (σ : L2.St) (H : Hp) : Prop where
  dom : DomP P H
  dom0 : DomP P0 H0
  sub : ∀ a, P0 a → P a
  new : ∀ a, P a → P0 a ∨ H0 a = none
  same : Sm E H0 H
  tab : Tbs P E.T H
  tab0 : Tbs P0 E.T H0
  len : σ.length = st.length
  val : ∀ (i : Nat) (d : D), st[i]? = some (some (.val d)) → ∃ v, σ[i]? = some (some v) ∧ Rep E.K E.cl P H v d
  brw : ∀ (i : Nat) (d : D), st[i]? = some (some (.brw d)) → ∃ v, σ[i]? = some (some v) ∧ (Rep E.K E.cl P H v d ∨ ∃ a, v = .ref a ∧ H0 a ≠ none ∧ OwnAt E.K E.cl P H a d)
  own : ∀ (i : Nat) (d : D), st[i]? = some (some (.own d)) → ∃ a, σ[i]? = some (some (.ref a)) ∧ P a ∧ H0 a = none ∧ OwnAt E.K E.cl P H a d
  inj : ∀ (i j : Nat) (d e : D) (a : Addr), st[i]? = some (some (.own d)) → st[j]? = some (some (.own e)) → σ[i]? = some (some (.ref a)) → σ[j]? = some (some (.ref a)) → i = j
  slf : ∀ (i c : Nat) (fs : List (Option D)), st[i]? = some (some (.slf c fs)) → ∃ a dx vs, σ[i]? = some (some (.ref a)) ∧ P a ∧ P dx ∧ H0 a = none ∧ H0 dx = none ∧ dx ≠ a ∧ SlX.Slt H a (E.cl c) dx vs ∧ vs.length ≤ fs.length ∧ (vs = [] → H dx = some (.own a)) ∧
    ∀ (j : Nat) (d : D), fs[j]? = some (some d) → ∃ v, vs[j]? = some (some v) ∧ Rep E.K E.cl P H v d
  uni : ∀ (i j c c' : Nat) (fs fs' : List (Option D)), st[i]? = some (some (.slf c fs)) → st[j]? = some (some (.slf c' fs')) → i = j
  me : ∀ (i c : Nat) (fs : List (Option D)), st[i]? = some (some (.slf c fs)) → σ[i]? = some (some (.ref E.me))
def Stp (P : Addr → Prop) (H : Hp) (P' : Addr → Prop) (H' : Hp) : Prop := Keeps P H H' ∧ (∀ a, P' a → P a ∨ H a = none) ∧ ∀ b, H' b = none → H b = none
def EndsR (W : WX) (P0 : Addr → Prop) (H0 : Hp) (P : Addr → Prop) (H : Hp) (D : Ends) : Out → Prop
  | .nx st' => ∀ P' σ' H', RlS E P0 H0 P' st' σ' H' → Stp P H P' H' → D.nx σ' H'
  | .bk st' => ∀ P' σ' H', RlS E P0 H0 P' st' σ' H' → Stp P H P' H' → D.bk σ' H'
  | .ct st' => ∀ P' σ' H', RlS E P0 H0 P' st' σ' H' → Stp P H P' H' → D.ct σ' H'
  | .rt d => ∀ v H', Sm E H0 H' → Rep E.K E.cl P0 H' v d → D.rt v H'
  | .ex x st' => ∀ P' σ' H' d, RlS E P0 H0 P' st' σ' H' → XAt E P0 H' x d → W (.ref (E.xc x.c)) d σ' H'
  | .no => False
def tS (W : WX) (ir : Sx) : TS := fun D σ H => ∃ st P0 H0 P, RlS E P0 H0 P st σ H ∧ EndsR E W P0 H0 P H D (evS E.G ir st)
end
section
variable {E : En} {W : WX} {P0 P P' : Addr → Prop} {st st' : Sl} {σ σ' : L2.St} {H0 H H' : Hp}
theorem uni_set {st : Sl} {i : Nat} {o : Option SV} (h : ∀ (i j c c' : Nat) (fs fs' : List (Option D)), st[i]? = some (some (.slf c fs)) → st[j]? = some (some (.slf c' fs')) → i = j) (hi : i < st.length) (ho : ∀ c fs, o ≠ some (.slf c fs)) :
    ∀ (k l c c' : Nat) (fs fs' : List (Option D)), (st.set i o)[k]? = some (some (.slf c fs)) → (st.set i o)[l]? = some (some (.slf c' fs')) → k = l := fun k l c c' fs fs' q1 q2 => by
  by_cases hk : i = k
  · subst hk; rw [List.getElem?_set_self hi] at q1; exact absurd (Option.some.inj q1) (ho c fs)
  · by_cases hl : i = l
    · subst hl; rw [List.getElem?_set_self hi] at q2; exact absurd (Option.some.inj q2) (ho c' fs')
    · rw [List.getElem?_set_ne hk] at q1; rw [List.getElem?_set_ne hl] at q2; exact h k l c c' fs fs' q1 q2
theorem me_set {st : Sl} {σ : L2.St} {i : Nat} {o : Option SV} {m : Addr} (h : ∀ (i c : Nat) (fs : List (Option D)), st[i]? = some (some (.slf c fs)) → σ[i]? = some (some (V.ref m))) (hi : i < st.length) (ho : ∀ c fs, o ≠ some (.slf c fs)) (w : Option V) :
    (∀ (k c : Nat) (fs : List (Option D)), (st.set i o)[k]? = some (some (.slf c fs)) → σ[k]? = some (some (V.ref m))) ∧ ∀ (k c : Nat) (fs : List (Option D)), (st.set i o)[k]? = some (some (.slf c fs)) → (σ.set i w)[k]? = some (some (V.ref m)) := by
  refine ⟨fun k c fs q => ?_, fun k c fs q => ?_⟩
  · by_cases hk : i = k
    · subst hk; rw [List.getElem?_set_self hi] at q; exact absurd (Option.some.inj q) (ho c fs)
    · rw [List.getElem?_set_ne hk] at q; exact h k c fs q
  · by_cases hk : i = k
    · subst hk; rw [List.getElem?_set_self hi] at q; exact absurd (Option.some.inj q) (ho c fs)
    · rw [List.getElem?_set_ne hk] at q ⊢; exact h k c fs q
theorem getV_of {st : Sl} {i : Nat} {d : D} (h : getV st i = .ok d) : st[i]? = some (some (.val d)) := by
  unfold getV at h
  split at h
  · rename_i d' e; cases h; exact e
  · cases h
theorem RlS.rl (r : RlS E P0 H0 P st σ H) : Rl E P st σ H where
  dom := r.dom
  tab := r.tab
  len := r.len
  val := fun i d e => r.val i d (getV_of e)
  bor := fun i d e => by
    unfold getB at e
    split at e
    · rename_i d' q; cases e; obtain ⟨v, h1, h2⟩ := r.val i d q; exact ⟨v, h1, .inl h2⟩
    · rename_i d' q
      cases e
      obtain ⟨v, h1, h2⟩ := r.brw i d q
      rcases h2 with h2 | ⟨a, ea, _, h2⟩
      · exact ⟨v, h1, .inl h2⟩
      · exact ⟨v, h1, .inr ⟨a, ea, h2⟩⟩
    · rename_i d' q; cases e; obtain ⟨a, h1, _, _, h2⟩ := r.own i d q; exact ⟨_, h1, .inr ⟨a, rfl, h2⟩⟩
    · cases e
theorem RlS.mono (r : RlS E P0 H0 P st σ H) (s : Sm E H H') : RlS E P0 H0 P st σ H' where
  dom := r.dom.same s
  dom0 := r.dom0
  sub := r.sub
  new := r.new
  same := r.same.trans s
  tab := s.tab P r.dom r.tab
  tab0 := r.tab0
  len := r.len
  val := fun i d e => let ⟨v, h1, h2⟩ := r.val i d e; ⟨v, h1, h2.same s⟩
  brw := fun i d e => let ⟨v, h1, h2⟩ := r.brw i d e; ⟨v, h1, h2.imp (fun q => q.same s) fun ⟨a, ea, n, q⟩ => ⟨a, ea, n, q.same s⟩⟩
  own := fun i d e => let ⟨a, h1, h2, h3, q⟩ := r.own i d e; ⟨a, h1, h2, h3, q.same s⟩
  inj := r.inj
  slf := fun i c fs e => let ⟨a, dx, vs, h1, h2, h3, h4, h5, hn, h6, h7, h9, h8⟩ := r.slf i c fs e; ⟨a, dx, vs, h1, h2, h3, h4, h5, hn, slt_mono (fun o n z => s.get a o z n) (fun o n z => s.get dx o z n) h6, h7, fun z => s.get dx _ (h9 z) (fun _ z => nomatch z), fun j d q => let ⟨v, k1, k2⟩ := h8 j d q; ⟨v, k1, k2.same s⟩⟩
  uni := r.uni
  me := r.me
theorem RlS.up {S : List Nat} (r : RlS E P0 H0 P st σ H) (u : Up E P H S st st' σ σ') : RlS E P0 H0 P st' σ' H where
  dom := r.dom
  dom0 := r.dom0
  sub := r.sub
  new := r.new
  same := r.same
  tab := r.tab
  tab0 := r.tab0
  len := by rw [u.1, u.2.1, r.len]
  val := fun i d e => by
    rcases u.2.2 i with ⟨_, e1, e2⟩ | ⟨_, d', v, q1, q2, q3⟩
    · rw [e2] at e; rw [e1]; exact r.val i d e
    · rw [q1] at e; cases e; exact ⟨v, q2, q3⟩
  brw := fun i d e => by
    rcases u.2.2 i with ⟨_, e1, e2⟩ | ⟨_, d', v, q1, q2, q3⟩
    · rw [e2] at e; rw [e1]; exact r.brw i d e
    · rw [q1] at e; cases e
  own := fun i d e => by
    rcases u.2.2 i with ⟨_, e1, e2⟩ | ⟨_, d', v, q1, q2, q3⟩
    · rw [e2] at e; rw [e1]; exact r.own i d e
    · rw [q1] at e; cases e
  inj := fun i j d e a q1 q2 q3 q4 => by
    rcases u.2.2 i with ⟨_, e1, e2⟩ | ⟨_, d', v, p1, _⟩
    · rcases u.2.2 j with ⟨_, f1, f2⟩ | ⟨_, d', v, p1, _⟩
      · rw [e2] at q1; rw [f2] at q2; rw [e1] at q3; rw [f1] at q4; exact r.inj i j d e a q1 q2 q3 q4
      · rw [p1] at q2; cases q2
    · rw [p1] at q1; cases q1
  slf := fun i c fs e => by
    rcases u.2.2 i with ⟨_, e1, e2⟩ | ⟨_, d', v, q1, q2, q3⟩
    · rw [e2] at e; rw [e1]; exact r.slf i c fs e
    · rw [q1] at e; cases e
  uni := fun i j c c' fs fs' q1 q2 => by
    rcases u.2.2 i with ⟨_, e1, e2⟩ | ⟨_, d', v, p1, _⟩
    · rcases u.2.2 j with ⟨_, f1, f2⟩ | ⟨_, d', v, p1, _⟩
      · rw [e2] at q1; rw [f2] at q2; exact r.uni i j c c' fs fs' q1 q2
      · rw [p1] at q2; cases q2
    · rw [p1] at q1; cases q1
  me := fun i c fs e => by
    rcases u.2.2 i with ⟨_, e1, e2⟩ | ⟨_, d', v, q1, q2, q3⟩
    · rw [e2] at e; rw [e1]; exact r.me i c fs e
    · rw [q1] at e; cases e
/-- more addresses are forbidden -/
theorem RlS.wide (r : RlS E P0 H0 P st σ H) (hs : ∀ a, P a → P' a) (hn : ∀ a, P' a → P a ∨ H a = none) (s : Sm E H H') (hd : DomP P' H') (ht : Tbs P' E.T H') : RlS E P0 H0 P' st σ H' where
  dom := hd
  dom0 := r.dom0
  sub := fun a z => hs a (r.sub a z)
  new := fun a z => (hn a z).elim (r.new a) fun e => .inr (r.same.free e)
  same := r.same.trans s
  tab := ht
  tab0 := r.tab0
  len := r.len
  val := fun i d e => let ⟨v, h1, h2⟩ := r.val i d e; ⟨v, h1, (h2.widen hn).same s⟩
  brw := fun i d e => let ⟨v, h1, h2⟩ := r.brw i d e; ⟨v, h1, h2.imp (fun q => (q.widen hn).same s) fun ⟨a, ea, n, q⟩ => ⟨a, ea, n, (q.widen hn).same s⟩⟩
  own := fun i d e => let ⟨a, h1, h2, h3, q⟩ := r.own i d e; ⟨a, h1, hs a h2, h3, (q.widen hn).same s⟩
  inj := r.inj
  slf := fun i c fs e => let ⟨a, dx, vs, h1, h2, h3, h4, h5, hn', h6, h7, h9, h8⟩ := r.slf i c fs e; ⟨a, dx, vs, h1, hs _ h2, hs _ h3, h4, h5, hn', slt_mono (fun o n z => s.get a o z n) (fun o n z => s.get dx o z n) h6, h7, fun z => s.get dx _ (h9 z) (fun _ z => nomatch z), fun j d q => let ⟨v, k1, k2⟩ := h8 j d q; ⟨v, k1, (k2.widen hn).same s⟩⟩
  uni := r.uni
  me := r.me
theorem own_ld {a : Addr} {d : D} {Q : Addr → Prop} (o : OwnAt E.K E.cl Q H a d) : ∃ u, H a = some u ∧ isLD u := by
  cases d with
  | lst ds => obtain ⟨xs, q, _⟩ := o; exact ⟨_, q, .inl ⟨xs, rfl⟩⟩
  | dic ks vs => obtain ⟨kvs, q, _⟩ := o; exact ⟨_, q, .inr ⟨kvs, rfl⟩⟩
  | _ => cases o
theorem tb_own {T : List (Addr × Str)} {a : Addr} {d : D} {Q : Addr → Prop} (h : Tbs P T H) (o : OwnAt E.K E.cl Q H a d) : Tbs (fun b => P b ∨ b = a) T H := h
/-- a container of our own goes into a slot -/
theorem RlS.putO (r : RlS E P0 H0 P st σ H) (s : Sm E H H') {v : V} {d : D} {i : Nat} (f : Fr E.K E.cl P H H' v d) (hi : i < st.length) : ∃ P', RlS E P0 H0 P' (st.set i (some (.own d))) (σ.set i (some v)) H' ∧ Stp P H P' H' := by
  obtain ⟨p, rfl, hp, o⟩ := f
  have hd : DomP (fun a => P a ∨ a = p) H' := fun a z => by
    rcases z with z | z
    · exact (r.dom.same s) a z
    · rw [z]; exact o.dom
  have w := r.wide (P' := fun a => P a ∨ a = p) (fun a z => .inl z) (fun a z => z.imp id fun q => by rw [q]; exact hp) s hd (tb_own (s.tab P r.dom r.tab) o)
  refine ⟨fun a => P a ∨ a = p, ?_, fun b o _ n e => s.get b o e n, (fun a z => z.imp id fun q => by rw [q]; exact hp), fun b e => s.free e⟩
  refine ⟨w.dom, w.dom0, w.sub, w.new, w.same, w.tab, w.tab0, by simp [w.len], fun j d' e => ?_, fun j d' e => ?_, fun j d' e => ?_, fun j k d1 d2 a q1 q2 q3 q4 => ?_, fun j c fs e => ?_, uni_set w.uni hi (fun _ _ z => nomatch z), (me_set (o := some (SV.own d)) w.me hi (fun _ _ z => nomatch z) (some (V.ref p))).2⟩
  · by_cases h : i = j
    · subst h; rw [List.getElem?_set_self hi] at e; cases e
    · rw [List.getElem?_set_ne h] at e ⊢; exact w.val j d' e
  · by_cases h : i = j
    · subst h; rw [List.getElem?_set_self hi] at e; cases e
    · rw [List.getElem?_set_ne h] at e ⊢; exact w.brw j d' e
  · by_cases h : i = j
    · subst h
      rw [List.getElem?_set_self hi] at e
      cases e
      exact ⟨p, List.getElem?_set_self (by rw [r.len]; exact hi), .inr rfl, r.same.free hp, o⟩
    · rw [List.getElem?_set_ne h] at e ⊢; exact w.own j d' e
  · have old : ∀ j, i ≠ j → ∀ d, st[j]? = some (some (.own d)) → σ[j]? ≠ some (some (.ref p)) := fun j hj d e z => by
      obtain ⟨a, h1, h2, h3, h4⟩ := r.own j d e
      rw [h1] at z
      cases z
      exact h4.dom hp
    have new : (σ.set i (some (V.ref p)))[i]? = some (some (V.ref p)) := List.getElem?_set_self (by rw [r.len]; exact hi)
    by_cases h : i = j
    · subst h
      rw [new] at q3
      cases q3
      by_cases h' : i = k
      · exact h'
      · rw [List.getElem?_set_ne h'] at q2 q4; exact absurd q4 (old k h' d2 q2)
    · rw [List.getElem?_set_ne h] at q1 q3
      by_cases h' : i = k
      · subst h'
        rw [new] at q4
        cases q4
        exact absurd q3 (old j h d1 q1)
      · rw [List.getElem?_set_ne h'] at q2 q4; exact w.inj j k d1 d2 a q1 q2 q3 q4
  · by_cases h : i = j
    · subst h; rw [List.getElem?_set_self hi] at e; cases e
    · rw [List.getElem?_set_ne h] at e ⊢; exact w.slf j c fs e
/-- our own container is changed -/
theorem RlS.chg (r : RlS E P0 H0 P st σ H) {i : Nat} {a : Addr} {d d' : D} {o : HO} (hi : st[i]? = some (some (.own d))) (ha : σ[i]? = some (some (.ref a))) (hk : ∀ b, b ≠ a → H' b = H b) (ho : H' a = some o) (hno : (∃ xs, o = .lst xs) ∨ ∃ kvs, o = .dK kvs)
    (hw : OwnAt E.K E.cl P H' a d') : RlS E P0 H0 P (st.set i (some (.own d'))) σ H' := by
  obtain ⟨a', e1, hP, h0, ow⟩ := r.own i d hi
  rw [ha] at e1
  cases e1
  have hlt : i < st.length := (List.getElem?_eq_some_iff.mp hi).1
  have kp : ∀ b o, ¬ P b → NT o → H b = some o → H' b = some o := fun b o n _ e => by rw [hk b fun z => n (by rw [z]; exact hP)]; exact e
  have kp2 : ∀ b, b ≠ a → ∀ o, NT o → H b = some o → H' b = some o := fun b n o _ e => by rw [hk b n]; exact e
  have kp3 : ∀ b o, ¬ P b → H b = some o → H' b = some o := fun b o n e => by rw [hk b fun z => n (by rw [z]; exact hP)]; exact e
  have eH : H' = upd H a o := funext fun b => by
    by_cases hb : b = a
    · rw [hb, ho, upd_same]
    · rw [hk b hb, upd_ne hb]
  have lstd : (∃ xs, H a = some (.lst xs)) ∨ ∃ kvs, H a = some (.dK kvs) := by
    cases d with
    | lst ds => obtain ⟨xs, q, _⟩ := ow; exact .inl ⟨xs, q⟩
    | dic ks vs => obtain ⟨kvs, q, _⟩ := ow; exact .inr ⟨kvs, q⟩
    | _ => cases ow
  have ne_ins : ∀ {b : Addr} {u : HO}, H b = some u → (∀ xs, u ≠ .lst xs) → (∀ kvs, u ≠ .dK kvs) → b ≠ a := fun {b u} e n1 n2 z => by
    subst z
    rcases lstd with ⟨xs, q⟩ | ⟨kvs, q⟩
    · rw [q] at e; cases e; exact n1 xs rfl
    · rw [q] at e; cases e; exact n2 kvs rfl
  refine ⟨fun b z => ?_, r.dom0, r.sub, r.new, ?_, (by obtain ⟨u, hu, ld⟩ := own_ld ow; rw [eH]; exact r.tab.updC hu ld), r.tab0, by simp [r.len], fun j x e => ?_, fun j x e => ?_, fun j x e => ?_, fun j k x y b q1 q2 q3 q4 => ?_, fun j c fs e => ?_, uni_set r.uni hlt (fun _ _ z => nomatch z), (me_set (o := some (SV.own d')) r.me hlt (fun _ _ z => nomatch z) none).1⟩
  · by_cases hb : b = a
    · rw [hb, ho]; exact fun z => nomatch z
    · rw [hk b hb]; exact r.dom b z
  · obtain ⟨u, hu, ld⟩ := own_ld ow
    rw [eH]
    exact r.same.updC h0 hu ld
  · by_cases h : i = j
    · subst h; rw [List.getElem?_set_self hlt] at e; cases e
    · rw [List.getElem?_set_ne h] at e
      obtain ⟨v, h1, h2⟩ := r.val j x e
      exact ⟨v, h1, h2.mono kp⟩
  · by_cases h : i = j
    · subst h; rw [List.getElem?_set_self hlt] at e; cases e
    · rw [List.getElem?_set_ne h] at e
      obtain ⟨v, h1, h2⟩ := r.brw j x e
      exact ⟨v, h1, h2.imp (fun q => q.mono kp) fun ⟨b, eb, n, q⟩ => ⟨b, eb, n, q.mono kp (kp2 b fun z => n (by rw [z]; exact h0))⟩⟩
  · by_cases h : i = j
    · subst h
      rw [List.getElem?_set_self hlt] at e
      cases e
      exact ⟨a, ha, hP, h0, hw⟩
    · rw [List.getElem?_set_ne h] at e
      obtain ⟨b, h1, h2, h3, h4⟩ := r.own j x e
      have nb : b ≠ a := fun z => by
        subst z
        exact h (r.inj i j d x b hi e ha h1)
      exact ⟨b, h1, h2, h3, h4.mono kp (kp2 b nb)⟩
  · have un : ∀ (j : Nat) (x : D), (st.set i (some (SV.own d')))[j]? = some (some (SV.own x)) → ∃ y, st[j]? = some (some (SV.own y)) := fun j x q => by
      by_cases h : i = j
      · subst h; exact ⟨d, hi⟩
      · rw [List.getElem?_set_ne h] at q; exact ⟨x, q⟩
    obtain ⟨y1, z1⟩ := un j x q1
    obtain ⟨y2, z2⟩ := un k y q2
    exact r.inj j k y1 y2 b z1 z2 q3 q4
  · by_cases h : i = j
    · subst h; rw [List.getElem?_set_self hlt] at e; cases e
    · rw [List.getElem?_set_ne h] at e
      obtain ⟨b, dx, vs, h1, h2, h3, h4, h5, hn, h6, h7, h9, h8⟩ := r.slf j c fs e
      have n1 : b ≠ a := by
        rcases h6 with ⟨q, _⟩ | ⟨q, _⟩
        · exact ne_ins q (fun _ z => nomatch z) fun _ z => nomatch z
        · exact ne_ins q (fun _ z => by unfold SlX.SlO at z; cases z) fun _ z => by unfold SlX.SlO at z; cases z
      have n2 : ∀ u, H dx = some u → (u = .own b ∨ u = .xd []) → dx ≠ a := fun u q z => ne_ins q (fun _ w => by rcases z with z | z <;> (rw [z] at w; cases w)) fun _ w => by rcases z with z | z <;> (rw [z] at w; cases w)
      have k2 : ∀ o, H dx = some o → (o = .own b ∨ o = .xd []) → H' dx = some o := fun o q z => kp2 dx (n2 o q z) o (fun _ w => by rcases z with z | z <;> (rw [z] at w; cases w)) q
      refine ⟨b, dx, vs, h1, h2, h3, h4, h5, hn, ?_, h7, fun z => k2 _ (h9 z) (.inl rfl), fun j d q => let ⟨v, k1, k2⟩ := h8 j d q; ⟨v, k1, k2.mono kp⟩⟩
      rcases h6 with ⟨q, z⟩ | ⟨q, z⟩
      · exact .inl ⟨kp2 b n1 _ (fun _ z => nomatch z) q, z⟩
      · exact .inr ⟨kp2 b n1 _ (fun _ z => by unfold SlX.SlO at z; cases z) q, k2 _ z (.inr rfl)⟩
/-- on the way out -/
theorem RlS.out (r : RlS E P0 H0 P st σ H) : Rl E P0 (frz st) σ H where
  dom := r.dom0.same r.same
  tab := r.same.tab P0 r.dom0 r.tab0
  len := by rw [r.len]; unfold frz; rw [List.length_map]
  val := fun i d e => by
    have q := getV_of e
    unfold frz at q
    rw [List.getElem?_map] at q
    obtain ⟨o, e1, e2⟩ := Option.map_eq_some_iff.mp q
    cases o with
    | none => cases e2
    | some sv =>
      cases sv with
      | val x => cases e2; obtain ⟨v, h1, h2⟩ := r.val i _ e1; exact ⟨v, h1, h2.anti r.sub⟩
      | own x => cases e2; obtain ⟨a, h1, h2, h3, h4⟩ := r.own i _ e1; exact ⟨_, h1, (h4.anti r.sub).rep fun z => r.dom0 a z h3⟩
      | brw x => cases e2
      | slf c fs => cases e2
  bor := fun i d e => by
    unfold getB at e
    have gm : (frz st)[i]? = (st[i]?).map frzV := by unfold frz; rw [List.getElem?_map]
    rw [gm] at e
    cases e1 : st[i]? with
    | none => rw [e1] at e; cases e
    | some o =>
      rw [e1] at e
      cases o with
      | none => cases e
      | some sv =>
        cases sv with
        | val x => cases e; obtain ⟨v, h1, h2⟩ := r.val i _ e1; exact ⟨v, h1, .inl (h2.anti r.sub)⟩
        | own x => cases e; obtain ⟨a, h1, h2, h3, h4⟩ := r.own i _ e1; exact ⟨_, h1, .inl ((h4.anti r.sub).rep fun z => r.dom0 a z h3)⟩
        | brw x =>
          cases e
          obtain ⟨v, h1, h2⟩ := r.brw i _ e1
          rcases h2 with h2 | ⟨a, ea, _, h2⟩
          · exact ⟨v, h1, .inl (h2.anti r.sub)⟩
          · exact ⟨v, h1, .inr ⟨a, ea, h2.anti r.sub⟩⟩
        | slf c fs => cases e
end
end Z

/-! Zt: one rule for each form of a statement. -/
namespace Z
open PySem PySem.Spec PyProof.Rows L2
section
variable {E : En} {W : WX} {X : Cx} {P0 P P' P1 P2 : Addr → Prop} {st st' : Sl} {σ σ' : L2.St} {H0 H H' H1 H2 : Hp} {dn : Ends} {x y z : Ex} {a b c tg : Expr} {pos : Pos}
theorem Stp.refl : Stp P H P H := ⟨fun _ _ _ _ e => e, fun _ z => .inl z, fun _ e => e⟩
theorem Stp.trans (s : Stp P H P1 H1) (t : Stp P1 H1 P2 H2) : Stp P H P2 H2 := by
  refine ⟨fun b o n nt e => t.1 b o (fun z => (s.2.1 b z).elim n fun q => by rw [q] at e; cases e) nt (s.1 b o n nt e), fun a z => ?_, fun b e => s.2.2 b (t.2.2 b e)⟩
  rcases t.2.1 a z with z | z
  · exact s.2.1 a z
  · exact .inr (s.2.2 a z)
theorem Stp.same (s : Sm E H H1) : Stp P H P H1 := ⟨fun b o _ n e => s.get b o e n, fun _ z => .inl z, fun b e => s.free e⟩
theorem EndsR.step {o : Out} (h : EndsR E W P0 H0 P H dn o) (s : Stp P H P1 H1) : EndsR E W P0 H0 P1 H1 dn o := by
  cases o with
  | nx st => exact fun P' σ' H' r t => h P' σ' H' r (s.trans t)
  | bk st => exact fun P' σ' H' r t => h P' σ' H' r (s.trans t)
  | ct st => exact fun P' σ' H' r t => h P' σ' H' r (s.trans t)
  | rt d => exact h
  | ex x st => exact h
  | no => exact h
/-- the first part of a statement -/
theorem out_ {α : Type} {r : R α} {f : α → Out} (rl : RlS E P0 H0 P st σ H) (h : EndsR E W P0 H0 P H dn (r.out st f)) : Aft E W P σ H r fun d => EndsR E W P0 H0 P H dn (f d) := by
  cases r with
  | ok a => exact h
  | ex x => exact fun d H' s q => h P σ H' d (rl.mono s) (q.anti rl.sub)
  | no => exact h
theorem one_s {f : Z.D → Out} {Q : VK} (rl : RlS E P0 H0 P st σ H) (h : EndsR E W P0 H0 P H dn ((ev E.G x st).out st f)) (hQ : ∀ d v H1, Sm E H H1 → RepX E P x H H1 v d → EndsR E W P0 H0 P H dn (f d) → Q v H1) : tE E W x σ H Q :=
  ⟨st, P, rl.rl, (out_ rl h).imp (Sm.refl H) fun d _ k v H1 s1 r1 => hQ d v H1 s1 r1 k⟩
/-! ### blocks -/
theorem s_snil : PSs X [] (tS E W .nil) := by
  refine PSs.to pss_nil fun dn σ H h => ?_
  obtain ⟨st, P0, H0, P, r, h⟩ := h
  exact h P σ H r .refl
theorem s_scons {s : Stmt} {ss : List Stmt} {i j : Sx} (h1 : PS X s (tS E W i)) (h2 : PSs X ss (tS E W j)) : PSs X (s :: ss) (tS E W (.seq i j)) := by
  refine PSs.to (pss_cons h1 h2) fun dn σ H h => ?_
  obtain ⟨st, P0, H0, P, r, h⟩ := h
  refine ⟨st, P0, H0, P, r, ?_⟩
  have h' : EndsR E W P0 H0 P H dn (match evS E.G i st with
    | .nx st1 => evS E.G j st1
    | o => o) := h
  cases e : evS E.G i st with
  | nx st1 => rw [e] at h'; exact fun P' σ' H' r' t => ⟨st1, P0, H0, P', r', h'.step t⟩
  | bk st1 => rw [e] at h'; exact h'
  | ct st1 => rw [e] at h'; exact h'
  | rt d => rw [e] at h'; exact h'
  | ex x st1 => rw [e] at h'; exact h'
  | no => rw [e] at h'; exact h'
theorem s_sfrz {ss : List Stmt} {i : Nat} {j : Sx} (h : PSs X ss (tS E W j)) : PSs X ss (tS E W (.seq (.frz i) j)) := by
  refine PSs.to h fun dn σ H h => ?_
  obtain ⟨st, P0, H0, P, r, h⟩ := h
  by_cases ho : ∃ d, st[i]? = some (some (SV.own d))
  · obtain ⟨d, q⟩ := ho
    have e1 : evS E.G (.seq (.frz i) j) st = evS E.G j (st.set i (some (.val d))) := by
      show (match (match st[i]? with
        | some (some (.own d)) => Out.nx (st.set i (some (.val d)))
        | _ => .no) with
        | .nx st1 => evS E.G j st1
        | o => o) = _
      rw [q]
    rw [e1] at h
    · have h' := h
      obtain ⟨ad, h1, h2, h3, h4⟩ := r.own i d q
      have hi : i < st.length := (List.getElem?_eq_some_iff.mp q).1
      have sb : ∀ a, (P a ∧ a ≠ ad) → P a := fun a z => z.1
      have n0 : ∀ a, P0 a → a ≠ ad := fun a z e => r.dom0 a z (by rw [e]; exact h3)
      refine ⟨st.set i (some (.val d)), P0, H0, fun a => P a ∧ a ≠ ad, ⟨fun a z => r.dom a z.1, r.dom0, fun a z => ⟨r.sub a z, n0 a z⟩, fun a z => r.new a z.1, r.same, r.tab.any, r.tab0, by simp [r.len], fun k e z => ?_, fun k e z => ?_, fun k e z => ?_, fun k l e f b z1 z2 z3 z4 => ?_, fun k c fs z => ?_, uni_set r.uni hi (fun _ _ z => nomatch z), (me_set (o := some (SV.val d)) r.me hi (fun _ _ z => nomatch z) none).1⟩, h'.step ⟨fun b o n _ e => e, (fun a z => .inl z.1), fun _ e => e⟩⟩
      · by_cases hk : i = k
        · subst hk
          rw [List.getElem?_set_self hi] at z
          cases z
          exact ⟨_, h1, (h4.anti sb).rep fun z => z.2 rfl⟩
        · rw [List.getElem?_set_ne hk] at z
          obtain ⟨v, k1, k2⟩ := r.val k e z
          exact ⟨v, k1, k2.anti sb⟩
      · by_cases hk : i = k
        · subst hk; rw [List.getElem?_set_self hi] at z; cases z
        · rw [List.getElem?_set_ne hk] at z
          obtain ⟨v, k1, k2⟩ := r.brw k e z
          exact ⟨v, k1, k2.imp (fun q => q.anti sb) fun ⟨b, eb, n, q⟩ => ⟨b, eb, n, q.anti sb⟩⟩
      · by_cases hk : i = k
        · subst hk; rw [List.getElem?_set_self hi] at z; cases z
        · rw [List.getElem?_set_ne hk] at z
          obtain ⟨b, k1, k2, k3, k4⟩ := r.own k e z
          exact ⟨b, k1, ⟨k2, fun w => hk (r.inj i k d e ad q z h1 (by rw [k1, w]))⟩, k3, k4.anti sb⟩
      · by_cases hk : i = k
        · subst hk; rw [List.getElem?_set_self hi] at z1; cases z1
        · by_cases hl : i = l
          · subst hl; rw [List.getElem?_set_self hi] at z2; cases z2
          · rw [List.getElem?_set_ne hk] at z1; rw [List.getElem?_set_ne hl] at z2; exact r.inj k l e f b z1 z2 z3 z4
      · by_cases hk : i = k
        · subst hk; rw [List.getElem?_set_self hi] at z; cases z
        · rw [List.getElem?_set_ne hk] at z
          obtain ⟨b, dx, vs, k1, k2, k3, k4, k5, kn, k6, k7, k9, k8⟩ := r.slf k c fs z
          have own_ne : ∀ {b : Addr} {u : HO}, H b = some u → (∀ xs, u ≠ .lst xs) → (∀ kvs, u ≠ .dK kvs) → b ≠ ad := fun {b u} e n1 n2 w => by
            subst w
            cases d with
            | lst ds => obtain ⟨xs, q, _⟩ := h4; rw [q] at e; cases e; exact n1 xs rfl
            | dic ks vs => obtain ⟨kvs, q, _⟩ := h4; rw [q] at e; cases e; exact n2 kvs rfl
            | _ => cases h4
          have n1 : b ≠ ad := by
            rcases k6 with ⟨q, _⟩ | ⟨q, _⟩
            · exact own_ne q (fun _ z => nomatch z) fun _ z => nomatch z
            · exact own_ne q (fun _ z => by unfold SlX.SlO at z; cases z) fun _ z => by unfold SlX.SlO at z; cases z
          have n2 : dx ≠ ad := by
            rcases k6 with ⟨_, q⟩ | ⟨_, q⟩
            · exact own_ne (k9 q) (fun _ z => nomatch z) fun _ z => nomatch z
            · exact own_ne q (fun _ z => nomatch z) fun _ z => nomatch z
          exact ⟨b, dx, vs, k1, ⟨k2, n1⟩, ⟨k3, n2⟩, k4, k5, kn, k6, k7, k9, fun j d q => let ⟨v, w1, w2⟩ := k8 j d q; ⟨v, w1, w2.anti sb⟩⟩
  · have e1 : evS E.G (.seq (.frz i) j) st = .no := by
      have e2 : evS E.G (.frz i) st = .no := by
        show (match st[i]? with
          | some (some (.own d)) => Out.nx (st.set i (some (.val d)))
          | _ => .no) = _
        split
        · rename_i d q; exact absurd ⟨d, q⟩ ho
        · rfl
      show (match evS E.G (.frz i) st with
        | .nx st1 => evS E.G j st1
        | o => o) = _
      rw [e2]
    rw [e1] at h
    exact h.elim
/-! ### small statements -/
theorem s_pass : PS X (.Pass pos) (tS E W .pass) := by
  refine PS.to ps_pass fun dn σ H h => ?_
  obtain ⟨st, P0, H0, P, r, h⟩ := h
  exact h P σ H r .refl
theorem s_brk : PS X (.Break pos) (tS E W .brk) := by
  refine PS.to ps_break fun dn σ H h => ?_
  obtain ⟨st, P0, H0, P, r, h⟩ := h
  exact h P σ H r .refl
theorem s_cnt : PS X (.Continue pos) (tS E W .cnt) := by
  refine PS.to ps_continue fun dn σ H h => ?_
  obtain ⟨st, P0, H0, P, r, h⟩ := h
  exact h P σ H r .refl
theorem s_nev {s : Stmt} : PS X s (tS E W .nev) := by
  refine PS.to ps_never fun dn σ H h => ?_
  obtain ⟨st, P0, H0, P, r, h⟩ := h
  exact h
theorem s_drop (ha : PE X a (tE E W x)) (hs : swapsWith a none pos.line X.env = pure false) : PS X (.Expr a pos) (tS E W (.drop x)) := by
  refine PS.to (ps_expr ha hs) fun dn σ H h => ?_
  obtain ⟨st, P0, H0, P, r, h⟩ := h
  exact one_s r h fun d v H1 s1 r1 h1 => h1 P σ H1 (r.mono s1) (.same s1)
theorem s_ret (ha : PE X a (tE E W x)) (hb : isB x = false) : PS X (.Return (some a) pos) (tS E W (.ret x)) := by
  refine PS.to (ps_ret ha) fun dn σ H h => ?_
  obtain ⟨st, P0, H0, P, r, h⟩ := h
  have h' : EndsR E W P0 H0 P H dn (if isB x = true then .no else (ev E.G x (frz st)).out st .rt) := h
  rw [hb] at h'
  refine ⟨frz st, P0, r.out, ?_⟩
  cases e : ev E.G x (frz st) with
  | ok d =>
    rw [e] at h'
    exact fun v H1 s1 r1 => (show ∀ v H', Sm E H0 H' → Rep E.K E.cl P0 H' v d → dn.rt v H' from h') v H1 (r.same.trans s1) (r1.r hb)
  | ex xx => rw [e] at h'; exact fun d H1 s1 q => (show ∀ P' σ' H' d, RlS E P0 H0 P' st σ' H' → XAt E P0 H' xx d → W (.ref (E.xc xx.c)) d σ' H' from h') P σ H1 d (r.mono s1) q
  | no => rw [e] at h'; exact h'
theorem s_retN : PS X (.Return none pos) (tS E W .retN) := by
  refine PS.to ps_retN fun dn σ H h => ?_
  obtain ⟨st, P0, H0, P, r, h⟩ := h
  exact (show ∀ v H', Sm E H0 H' → Rep E.K E.cl P0 H' v .non → dn.rt v H' from h) _ H r.same .non
theorem s_if {as bs : List Stmt} {i j : Sx} (hc : PT X c (tT E W z)) (ha : PSs X as (tS E W i)) (hb : PSs X bs (tS E W j)) : PS X (.If c as bs pos) (tS E W (.iff z i j)) := by
  refine PS.to (ps_if hc ha hb) fun dn σ H h => ?_
  obtain ⟨st, P0, H0, P, r, h⟩ := h
  refine ⟨st, P, r.rl, (out_ r (show EndsR E W P0 H0 P H dn ((evT E.G z st).out st fun d => if d then evS E.G i st else evS E.G j st) from h)).imp (Sm.refl H) fun b _ k H1 s1 => ?_⟩
  have k' := k.step (.same s1)
  cases b with
  | true => exact ⟨st, P0, H0, P, r.mono s1, k'⟩
  | false => exact ⟨st, P0, H0, P, r.mono s1, k'⟩
/-! ### assignments -/
theorem of_ {o : Option Sl} (h : EndsR E W P0 H0 P H dn (.of o)) : ∃ st', o = some st' ∧ ∀ P' σ' H', RlS E P0 H0 P' st' σ' H' → Stp P H P' H' → dn.nx σ' H' := by
  cases o with
  | none => exact (show False from h).elim
  | some st' => exact ⟨st', rfl, h⟩
theorem asg_rd {t : Tg} (h : tS E W (.asg t x) dn σ H) : tAsg (tE E W x) (gOf E.K t) dn σ H := by
  obtain ⟨st, P0, H0, P, r, h⟩ := h
  have h' : EndsR E W P0 H0 P H dn (if isB x = true then .no else (ev E.G x st).out st fun d => .of (bindT t d st)) := h
  cases hb : isB x with
  | true => rw [hb] at h'; exact (show False from h').elim
  | false =>
    rw [hb] at h'
    refine one_s r (show EndsR E W P0 H0 P H dn ((ev E.G x st).out st fun d => .of (bindT t d st)) from h') fun d v H1 s1 r1 h1 => ?_
    obtain ⟨st', e, q⟩ := of_ h1
    exact gof_ok (r1.r hb) e r.len fun σ' u => q P σ' H1 ((r.mono s1).up u) (.same s1)
theorem asgO_rd {i : Nat} (h : tS E W (.asgO i x) dn σ H) : tAsg (tE E W x) (gName i) dn σ H := by
  obtain ⟨st, P0, H0, P, r, h⟩ := h
  have h' : EndsR E W P0 H0 P H dn (if isFr x = true then (ev E.G x st).out st fun d => .of (setO st i d) else .no) := h
  cases hf : isFr x with
  | false => rw [hf] at h'; exact (show False from h').elim
  | true =>
    rw [hf] at h'
    have hb : isB x = false := by cases x <;> first | rfl | cases hf
    refine one_s r (show EndsR E W P0 H0 P H dn ((ev E.G x st).out st fun d => .of (setO st i d)) from h') fun d v H1 s1 r1 h1 => ?_
    obtain ⟨st', e, q⟩ := of_ h1
    unfold setO at e
    split at e
    · rename_i hc
      cases e
      obtain ⟨c1, c2⟩ := Bool.and_eq_true_iff.mp hc
      obtain ⟨P', r', t⟩ := r.putO s1 (i := i) (r1.f hb hf c2) (of_decide_eq_true c1)
      exact q P' _ H1 r' t
    · cases e
end
end Z

/-! Zu: stores side by side, loops, changes of our own things. -/
namespace Z
open PySem PySem.Spec PyProof.Rows L2
inductive LoopN (c : Sl → R Bool) (b : Sl → Out) : Nat → Sl → Out → Prop
  | stop {st} : c st = .ok false → LoopN c b 0 st (.nx st)
  | nx {n st st' o} : c st = .ok true → b st = .nx st' → LoopN c b n st' o → LoopN c b (n + 1) st o
  | ct {n st st' o} : c st = .ok true → b st = .ct st' → LoopN c b n st' o → LoopN c b (n + 1) st o
  | bk {st st'} : c st = .ok true → b st = .bk st' → LoopN c b 0 st (.nx st')
  | rt {st d} : c st = .ok true → b st = .rt d → LoopN c b 0 st (.rt d)
theorem loopN_of {c : Sl → R Bool} {b : Sl → Out} {st : Sl} {o : Out} (h : Loop c b st o) : ∃ n, LoopN c b n st o := by
  induction h with
  | stop h1 => exact ⟨0, .stop h1⟩
  | nx h1 h2 _ ih => obtain ⟨n, q⟩ := ih; exact ⟨n + 1, .nx h1 h2 q⟩
  | ct h1 h2 _ ih => obtain ⟨n, q⟩ := ih; exact ⟨n + 1, .ct h1 h2 q⟩
  | bk h1 h2 => exact ⟨0, .bk h1 h2⟩
  | rt h1 h2 => exact ⟨0, .rt h1 h2⟩
section
variable {E : En} {W : WX} {X : Cx} {P0 P P' P1 P2 : Addr → Prop} {st st' : Sl} {σ σ' : L2.St} {H0 H H' H1 H2 : Hp} {dn : Ends} {x y z : Ex} {a b c tg : Expr} {pos : Pos}
/-! ### side by side -/
def setAll (σ : L2.St) : List Nat → List V → L2.St
  | i :: is, v :: vs => setAll (σ.set i (some v)) is vs
  | _, _ => σ
def tPs (E : En) (W : WX) : Ex → TA
  | .cons x r => tCons (tE E W x) (tPs E W r)
  | .nil => tNil
  | _ => fun _ _ _ => False
/-- a container that is ours goes into a slot -/
theorem RlS.seat (r : RlS E P0 H0 P st σ H) {p : Addr} {d : D} {i : Nat} (hp : P p) (h0 : H0 p = none) (o : OwnAt E.K E.cl P H p d) (hn : ∀ (j : Nat) (e : D), st[j]? = some (some (.own e)) → σ[j]? ≠ some (some (.ref p))) (hi : i < st.length) :
    RlS E P0 H0 P (st.set i (some (.own d))) (σ.set i (some (.ref p))) H := by
  have new : (σ.set i (some (V.ref p)))[i]? = some (some (V.ref p)) := List.getElem?_set_self (by rw [r.len]; exact hi)
  refine ⟨r.dom, r.dom0, r.sub, r.new, r.same, r.tab, r.tab0, by simp [r.len], fun j d' e => ?_, fun j d' e => ?_, fun j d' e => ?_, fun j k d1 d2 a q1 q2 q3 q4 => ?_, fun j c fs e => ?_, uni_set r.uni hi (fun _ _ z => nomatch z), (me_set (o := some (SV.own d)) r.me hi (fun _ _ z => nomatch z) (some (V.ref p))).2⟩
  · by_cases h : i = j
    · subst h; rw [List.getElem?_set_self hi] at e; cases e
    · rw [List.getElem?_set_ne h] at e ⊢; exact r.val j d' e
  · by_cases h : i = j
    · subst h; rw [List.getElem?_set_self hi] at e; cases e
    · rw [List.getElem?_set_ne h] at e ⊢; exact r.brw j d' e
  · by_cases h : i = j
    · subst h
      rw [List.getElem?_set_self hi] at e
      cases e
      exact ⟨p, new, hp, h0, o⟩
    · rw [List.getElem?_set_ne h] at e ⊢; exact r.own j d' e
  · by_cases h : i = j
    · subst h
      rw [new] at q3
      cases q3
      by_cases h' : i = k
      · exact h'
      · rw [List.getElem?_set_ne h'] at q2 q4; exact absurd q4 (hn k d2 q2)
    · rw [List.getElem?_set_ne h] at q1 q3
      by_cases h' : i = k
      · subst h'
        rw [new] at q4
        cases q4
        exact absurd q3 (hn j d1 q1)
      · rw [List.getElem?_set_ne h'] at q2 q4; exact r.inj j k d1 d2 a q1 q2 q3 q4
  · by_cases h : i = j
    · subst h; rw [List.getElem?_set_self hi] at e; cases e
    · rw [List.getElem?_set_ne h] at e ⊢; exact r.slf j c fs e
theorem tPs_no : ∀ {l : List (Nat × Bool)} {e : Ex} {st : Sl} {σ : L2.St} {P : Addr → Prop} {H : Hp} {Q : List V → Hp → Prop}, parOk l e = true → RlS E P0 H0 P st σ H → EndsR E W P0 H0 P H dn ((evL E.G e st).out st fun _ => .no) → tPs E W e σ H Q
  | [], .nil, st, σ, P, H, Q, _, r, h => h.elim
  | (i, b) :: l, .cons x e, st, σ, P, H, Q, hok, r, h => by
    obtain ⟨h1, ok2⟩ := Bool.and_eq_true_iff.mp (show ((!b || isFr x) && !isB x && parOk l e) = true from hok)
    have eo : ((evL E.G (.cons x e) st).out st fun ds => Out.no) = (ev E.G x st).out st fun d => (evL E.G e st).out st fun ds => .no := by
      show (R.out ((ev E.G x st).bind fun d => (evL E.G e st).bind fun ds => .ok (d :: ds)) st _) = _
      cases ev E.G x st with
      | ok d => cases evL E.G e st <;> rfl
      | _ => rfl
    rw [eo] at h
    exact one_s r h fun d v H1 s1 r1 k => tPs_no ok2 (r.mono s1) (k.step (.same s1))
  | [], .cons x e, _, _, _, _, _, h, _, _ => by cases h
  | _ :: _, .nil, _, _, _, _, _, h, _, _ => by cases h
theorem par_rd : ∀ {l : List (Nat × Bool)} {e : Ex} {st st' : Sl} {σ σ' : L2.St} {P : Addr → Prop} {H : Hp} {Q : List V → Hp → Prop}, parOk l e = true → RlS E P0 H0 P st σ H → RlS E P0 H0 P st' σ' H →
    EndsR E W P0 H0 P H dn ((evL E.G e st).out st fun ds => .of (parT l ds st')) → (∀ vs H1, vs.length = l.length → (∀ H2, Sm E H1 H2 → dn.nx (setAll σ' (l.map (·.1)) vs) H2) → Q vs H1) → tPs E W e σ H Q
  | [], .nil, st, st', σ, σ', P, H, Q, _, r, r', h, hQ => hQ [] H rfl fun H2 s2 => h P σ' H2 (r'.mono s2) (.same s2)
  | (i, b) :: l, .cons x e, st, st', σ, σ', P, H, Q, hok, r, r', h, hQ => by
    obtain ⟨h1, ok2⟩ := Bool.and_eq_true_iff.mp (show ((!b || isFr x) && !isB x && parOk l e) = true from hok)
    obtain ⟨ok0, ok1⟩ := Bool.and_eq_true_iff.mp h1
    have hb : isB x = false := by simpa using ok1
    have eo : ((evL E.G (.cons x e) st).out st fun ds => Out.of (parT ((i, b) :: l) ds st')) = (ev E.G x st).out st fun d => (evL E.G e st).out st fun ds => .of (parT ((i, b) :: l) (d :: ds) st') := by
      show (R.out ((ev E.G x st).bind fun d => (evL E.G e st).bind fun ds => .ok (d :: ds)) st _) = _
      cases ev E.G x st with
      | ok d => cases evL E.G e st <;> rfl
      | _ => rfl
    rw [eo] at h
    refine one_s r h fun d v H1 s1 r1 k => ?_
    cases b with
    | false =>
      have e2 : ∀ ds, parT ((i, false) :: l) (d :: ds) st' = if i < st'.length then parT l ds (st'.set i (some (.val d))) else none := fun ds => rfl
      simp only [e2] at k
      by_cases hi : i < st'.length
      · simp only [if_pos hi] at k
        exact par_rd ok2 (r.mono s1) ((r'.mono s1).up (.one r'.len hi (r1.r hb))) (k.step (.same s1)) fun vs H2 hl q => hQ (v :: vs) H2 (by simp [hl]) q
      · simp only [if_neg hi] at k
        exact tPs_no ok2 (r.mono s1) (k.step (.same s1))
    | true =>
      have hf : isFr x = true := by simpa using ok0
      have e2 : ∀ ds, parT ((i, true) :: l) (d :: ds) st' = (setO st' i d).bind (parT l ds) := fun ds => rfl
      simp only [e2] at k
      by_cases hc : (decide (i < st'.length) && isCont d) = true
      · have e3 : setO st' i d = some (st'.set i (some (.own d))) := by unfold setO; rw [if_pos hc]
        simp only [e3, Option.bind_some] at k
        obtain ⟨c1, c2⟩ := Bool.and_eq_true_iff.mp hc
        obtain ⟨p, rfl, hp, o⟩ := r1.f hb hf c2
        have hd : DomP (fun a => P a ∨ a = p) H1 := fun a z => by
          rcases z with z | z
          · exact (r.dom.same s1) a z
          · rw [z]; exact o.dom
        have hw : ∀ a, (P a ∨ a = p) → P a ∨ H a = none := fun a z => z.imp id fun q => by rw [q]; exact hp
        have w := r.wide (P' := fun a => P a ∨ a = p) (fun a z => .inl z) hw s1 hd (tb_own (s1.tab P r.dom r.tab) o)
        have w' := r'.wide (P' := fun a => P a ∨ a = p) (fun a z => .inl z) hw s1 hd (tb_own (s1.tab P r.dom r.tab) o)
        have w2 := w'.seat (i := i) (.inr rfl) (r.same.free hp) o (fun j e z z2 => by
          obtain ⟨q, h1, _, _, h4⟩ := r'.own j e z
          rw [h1] at z2
          cases z2
          exact h4.dom hp) (of_decide_eq_true c1)
        exact par_rd ok2 w w2 (k.step ⟨fun b o _ n e => s1.get b o e n, hw, fun b e => s1.free e⟩) fun vs H2 hl q => hQ (.ref p :: vs) H2 (by simp [hl]) q
      · have e3 : setO st' i d = none := by unfold setO; rw [if_neg hc]
        simp only [e3, Option.bind_none] at k
        exact tPs_no ok2 (r.mono s1) (k.step (.same s1))
  | [], .cons x e, _, _, _, _, _, _, _, h, _, _, _, _ => by cases h
  | _ :: _, .nil, _, _, _, _, _, _, _, h, _, _, _, _ => by cases h
theorem par_of {l : List (Nat × Bool)} {e : Ex} {Q : List V → Hp → Prop} (h : tS E W (.par l e) dn σ H) (hQ : ∀ vs H1, vs.length = l.length → (∀ H2, Sm E H1 H2 → dn.nx (setAll σ (l.map (·.1)) vs) H2) → Q vs H1) : tPs E W e σ H Q := by
  obtain ⟨st, P0, H0, P, r, h⟩ := h
  have h' : EndsR E W P0 H0 P H dn (if parOk l e = true then (evL E.G e st).out st fun ds => .of (parT l ds st) else .no) := h
  cases hk : parOk l e with
  | false => rw [hk] at h'; exact (show False from h').elim
  | true => rw [hk] at h'; exact par_rd hk r r h' hQ
theorem s_par2 {i j : Nat} {n m : Str} {b1 b2 : Bool} {e : Ex} {px py pt : Pos} {kt k2 pt2} (hc : X.calm = true) (hN : X.N.Nodup) (hi : X.N[i]? = some n) (hj : X.N[j]? = some m) (hij : i ≠ j) (hx : X.env.scope.names.lookup n = some .local) (hy : X.env.scope.names.lookup m = some .local)
    (ha : PA X [a, b] (tPs E W e)) (hw : swappedStores [.Tuple [.Name n px, .Name m py] kt pt] (.Tuple [a, b] k2 pt2) X.env = pure (some [n, m])) (hs : swapsWithSole [.Tuple [.Name n px, .Name m py] kt pt] (.Tuple [a, b] k2 pt2) pos.line X.env = pure false) :
    PS X (.Assign [.Tuple [.Name n px, .Name m py] kt pt] (.Tuple [a, b] k2 pt2) pos) (tS E W (.par [(i, b1), (j, b2)] e)) := by
  refine PS.to (ps_par hc hN hi hj hij hx hy ha hw hs) fun D σ H h => ?_
  refine par_of h fun vs H1 hl q => ?_
  match vs, hl with
  | [v, w], _ => exact ⟨v, w, rfl, q H1 (Sm.refl H1)⟩
theorem s_par3 {i j l : Nat} {n m o : Str} {b1 b2 b3 : Bool} {e : Ex} {px py pz pt : Pos} {kt k2 pt2} (hc : X.calm = true) (hN : X.N.Nodup) (hi : X.N[i]? = some n) (hj : X.N[j]? = some m) (hl : X.N[l]? = some o) (hij : i ≠ j) (hil : i ≠ l) (hjl : j ≠ l)
    (hx : X.env.scope.names.lookup n = some .local) (hy : X.env.scope.names.lookup m = some .local) (hz : X.env.scope.names.lookup o = some .local)
    (ha : PA X [a, b, c] (tPs E W e)) (hw : swappedStores [.Tuple [.Name n px, .Name m py, .Name o pz] kt pt] (.Tuple [a, b, c] k2 pt2) X.env = pure (some [n, m, o])) (hs : swapsWithSole [.Tuple [.Name n px, .Name m py, .Name o pz] kt pt] (.Tuple [a, b, c] k2 pt2) pos.line X.env = pure false) :
    PS X (.Assign [.Tuple [.Name n px, .Name m py, .Name o pz] kt pt] (.Tuple [a, b, c] k2 pt2) pos) (tS E W (.par [(i, b1), (j, b2), (l, b3)] e)) := by
  refine PS.to (ps_par3 hc hN hi hj hl hij hil hjl hx hy hz ha hw hs) fun D σ H h => ?_
  refine par_of h fun vs H1 hl q => ?_
  match vs, hl with
  | [v, w, u], _ => exact ⟨v, w, u, rfl, q H1 (Sm.refl H1)⟩
/-- names that a comprehension has caught: stored from the left -/
def nmsT : List (Nat × Bool) → Tg
  | [] => .nil
  | (i, _) :: r => .cons (.nm i) (nmsT r)
theorem nms_rd : ∀ {l : List (Nat × Bool)} {vs : List V} {σ : L2.St} {H : Hp} {Q : L2.St → Hp → Prop}, vs.length = l.length → Q (setAll σ (l.map (·.1)) vs) H → gsOf E.K (nmsT l) vs σ H Q
  | [], [], _, _, _, _, h => ⟨rfl, h⟩
  | (i, b) :: l, v :: vs, σ, H, Q, hl, h => ⟨v, vs, rfl, nms_rd (l := l) (by simpa using hl) h⟩
  | [], _ :: _, _, _, _, h, _ => by simp at h
  | _ :: _, [], _, _, _, h, _ => by simp at h
theorem nms_len : ∀ l : List (Nat × Bool), tgN (nmsT l) = l.length
  | [] => rfl
  | _ :: r => by show tgN (nmsT r) + 1 = _; rw [nms_len r]; rfl
theorem s_parU {l : List (Nat × Bool)} {e : Ex} {es : List Expr} {k2 : Nat} {pt2 : Pos} (hl : l.length ≤ 1000000) (ha : PA X es (tPs E W e)) (hg : PG X tg (gOf E.K (.tp (nmsT l)))) (hs : swapsWithSole [tg] (.Tuple es k2 pt2) pos.line X.env = pure false) (hw : swappedStores [tg] (.Tuple es k2 pt2) X.env = pure none)
    (h1 : (assignEach [tg] X.env).map (·.2) = [assign tg X.env]) : PS X (.Assign [tg] (.Tuple es k2 pt2) pos) (tS E W (.par l e)) := by
  refine PS.to (ps_asg (pe_tup ha) hg hs hw h1) fun D σ H h => ?_
  refine par_of h fun vs H1 hv q => ⟨line_mil (by omega), fun p hp => ?_⟩
  exact ⟨p, vs, rfl, .inl (.inl upd_same), by rw [nms_len]; exact hv, nms_rd hv (q _ (same_upd hp))⟩
/-! ### for -/
theorem s_for {t : Tg} {s : Ex} {body : List Stmt} {i : Sx} (hp : PassesOwn (model X.prog X.w) X.A X.env X.xe) (hc : X.calm = true) (hn : nbI s = true) (hi : PI X tg b (tI E W s)) (hg : PG X tg (gOf E.K t)) (hb : PSs X body (tS E W i)) (hs : ∀ x, foldedSetIterable b X.env x = pure x) :
    PS X (.For tg b body [] pos) (tS E W (.forr t s i)) := by
  refine PS.to (ps_for hp hc hi hg hb hs) fun D σ H h => ?_
  obtain ⟨st, P0, H0, P, r, h⟩ := h
  refine ⟨st, P, r.rl, (out_ r (show EndsR E W P0 H0 P H D ((evI E.G s st).out st fun xs => forGo t (evS E.G i) xs st) from h)).imp (Sm.refl H) fun xs _ k J H1 s1 it => ?_⟩
  obtain ⟨G, Y, wk, hG, hY⟩ := it
  have pk : pkI P s = P := by unfold pkI; rw [hn]; rfl
  rw [pk] at hG hY
  refine for_it wk (fun n σ' Hn => ∃ st' P', RlS E P0 H0 P' st' σ' Hn ∧ Stp P H1 P' Hn ∧ EndsR E W P0 H0 P' Hn D (forGo t (evS E.G i) (xs.drop n) st')) ⟨st, P, r.mono s1, .refl, k.step (.same s1)⟩ ?_ ?_ ?_
  · rintro n σ' Hn _ ⟨_, _, _, s2, _⟩
    exact hG Hn s2.1
  · rintro n v σ' Hn H' hlt ⟨st', P', r', s2, k'⟩ yy
    obtain ⟨s3, d, ed, rv⟩ := hY P' n Hn v H' hlt s2.2.1 s2.1 r'.dom yy
    have hdrop : xs.drop n = d :: xs.drop (n + 1) := by
      obtain ⟨hlt, hg⟩ := List.getElem?_eq_some_iff.mp ed
      rw [← hg]
      exact List.drop_eq_getElem_cons hlt
    rw [hdrop] at k'
    have k2 : EndsR E W P0 H0 P' Hn D (match bindT t d st' with
      | none => .no
      | some st1 => match evS E.G i st1 with
        | .nx st2 => forGo t (evS E.G i) (xs.drop (n + 1)) st2
        | .ct st2 => forGo t (evS E.G i) (xs.drop (n + 1)) st2
        | .bk st2 => .nx st2
        | o => o) := k'
    cases eb : bindT t d st' with
    | none => rw [eb] at k2; exact (show False from k2).elim
    | some st1 =>
      rw [eb] at k2
      refine gof_ok rv eb r'.len fun σ2 u => ⟨st1, P0, H0, P', (r'.mono s3).up u, ?_⟩
      have k3 : EndsR E W P0 H0 P' H' D (match evS E.G i st1 with
        | .nx st2 => forGo t (evS E.G i) (xs.drop (n + 1)) st2
        | .ct st2 => forGo t (evS E.G i) (xs.drop (n + 1)) st2
        | .bk st2 => .nx st2
        | o => o) := k2.step (Stp.same s3)
      have again : ∀ {st2 : Sl} {P'' : Addr → Prop} {σ'' : L2.St} {H'' : Hp}, RlS E P0 H0 P'' st2 σ'' H'' → Stp P' H' P'' H'' → EndsR E W P0 H0 P' H' D (forGo t (evS E.G i) (xs.drop (n + 1)) st2) →
          ∃ st' P', RlS E P0 H0 P' st' σ'' H'' ∧ Stp P H1 P' H'' ∧ EndsR E W P0 H0 P' H'' D (forGo t (evS E.G i) (xs.drop (n + 1)) st') := fun r2 t2 k => ⟨_, _, r2, (s2.trans (.same s3)).trans t2, k.step t2⟩
      cases e : evS E.G i st1 with
      | nx st2 => rw [e] at k3; exact fun P'' σ'' H'' r2 t2 => again r2 t2 k3
      | ct st2 => rw [e] at k3; exact fun P'' σ'' H'' r2 t2 => again r2 t2 k3
      | bk st2 => rw [e] at k3; exact k3
      | rt d => rw [e] at k3; exact k3
      | ex x st2 => rw [e] at k3; exact k3
      | no => rw [e] at k3; exact k3
  · rintro σ' Hn ⟨st', P', r', s2, k'⟩
    rw [List.drop_length] at k'
    exact k' P' σ' Hn r' .refl
/-! ### while -/
theorem s_while {body : List Stmt} {i : Sx} (hp : PassesOwn (model X.prog X.w) X.A X.env X.xe) (hc : PT X c (tT E W z)) (hb : PSs X body (tS E W i)) : PS X (.While c body [] pos) (tS E W (.whil z i)) := by
  refine PS.to (ps_while hp hc hb) fun D σ H h => ?_
  obtain ⟨st, P0, H0, P, r, h⟩ := h
  have h' : EndsR E W P0 H0 P H D (whileD (evT E.G z) (evS E.G i) st) := h
  have hne : whileD (evT E.G z) (evS E.G i) st ≠ .no := fun e => by rw [e] at h'; exact h'
  obtain ⟨n, ln⟩ := loopN_of (whileD_loop hne)
  refine ⟨fun m σ' H' => ∃ st' P' o, RlS E P0 H0 P' st' σ' H' ∧ LoopN (evT E.G z) (evS E.G i) m st' o ∧ EndsR E W P0 H0 P' H' D o, ⟨n, st, P, _, r, ln, h'⟩, ?_⟩
  rintro m σ' H' ⟨st', P', o, r', ln, k⟩
  have tst : ∀ (b : Bool) (Q : Bool → Hp → Prop), evT E.G z st' = .ok b → (∀ H1, Sm E H' H1 → Q b H1) → tT E W z σ' H' Q := fun b Q e q => ⟨st', P', r'.rl, Aft.of_ok e q⟩
  cases ln with
  | stop e => exact tst false _ e fun H1 s1 => k P' σ' H1 (r'.mono s1) (.same s1)
  | nx e1 e2 l =>
    rename_i m st2
    refine tst true _ e1 fun H1 s1 => ⟨fun σ2 H2 => ∃ m', m' < m + 1 ∧ ∃ st' P' o, RlS E P0 H0 P' st' σ2 H2 ∧ LoopN (evT E.G z) (evS E.G i) m' st' o ∧ EndsR E W P0 H0 P' H2 D o, fun _ _ q => q, st', P0, H0, P', r'.mono s1, ?_⟩
    rw [e2]
    exact fun P2 σ2 H2 r2 t2 => ⟨_, Nat.lt_succ_self _, _, P2, o, r2, l, (k.step (.same s1)).step t2⟩
  | ct e1 e2 l =>
    rename_i m st2
    refine tst true _ e1 fun H1 s1 => ⟨fun σ2 H2 => ∃ m', m' < m + 1 ∧ ∃ st' P' o, RlS E P0 H0 P' st' σ2 H2 ∧ LoopN (evT E.G z) (evS E.G i) m' st' o ∧ EndsR E W P0 H0 P' H2 D o, fun _ _ q => q, st', P0, H0, P', r'.mono s1, ?_⟩
    rw [e2]
    exact fun P2 σ2 H2 r2 t2 => ⟨_, Nat.lt_succ_self _, _, P2, o, r2, l, (k.step (.same s1)).step t2⟩
  | bk e1 e2 =>
    refine tst true _ e1 fun H1 s1 => ⟨fun _ _ => False, fun _ _ q => q.elim, st', P0, H0, P', r'.mono s1, ?_⟩
    rw [e2]
    exact (show EndsR E W P0 H0 P' H' D (.nx _) from k).step (.same s1)
  | rt e1 e2 =>
    refine tst true _ e1 fun H1 s1 => ⟨fun _ _ => False, fun _ _ q => q.elim, st', P0, H0, P', r'.mono s1, ?_⟩
    rw [e2]
    exact k
end
end Z

/-! Zv: changes of our own things. -/
namespace Z
open PySem PySem.Spec PyProof.Rows L2
section
variable {E : En} {W : WX} {X : Cx} {P0 P P' P1 P2 : Addr → Prop} {st st' : Sl} {σ σ' : L2.St} {H0 H H' H1 H2 : Hp} {dn : Ends} {x y z : Ex} {a b c tg : Expr} {pos : Pos}
theorem RlS.chg' (r : RlS E P0 H0 P st σ H) (s1 : Sm E H H1) {i : Nat} {a : Addr} {d d' : D} {o : HO} (hi : st[i]? = some (some (.own d))) (ha : σ[i]? = some (some (.ref a))) (hno : (∃ xs, o = .lst xs) ∨ ∃ kvs, o = .dK kvs)
    (hw : OwnAt E.K E.cl P (upd H1 a o) a d') : RlS E P0 H0 P (st.set i (some (.own d'))) σ (upd H1 a o) ∧ Stp P H P (upd H1 a o) := by
  refine ⟨(r.mono s1).chg hi ha (fun b hb => upd_ne hb) upd_same hno hw, fun b u n nt e => ?_, (fun a z => .inl z), fun b e => ?_⟩
  · obtain ⟨a', e1, hP, _⟩ := r.own i d hi
    rw [ha] at e1
    cases e1
    rw [upd_ne fun z => n (by rw [z]; exact hP)]
    exact s1.get b u e nt
  · by_cases hb : b = a
    · rw [hb, upd_same] at e; cases e
    · rw [upd_ne hb] at e; exact s1.free e
/-- what is not ours stays through a change of ours -/
theorem keepP {a : Addr} {o : HO} (h : P a) : ∀ b u, ¬ P b → NT u → H b = some u → upd H a o b = some u := fun b u n _ e => by rw [upd_ne fun z => n (by rw [z]; exact h)]; exact e
theorem s_app {n : Str} {i : Nat} {p apos cpos : Pos} (hN : X.N[i]? = some n) (hv : Vis X.env.scope n) (hd : (n == ("__debug__" : Str)) = false) (hcd : (n == ("__classdict__" : Str)) = false) (ha : PE X a (tE E W x)) (hs : starEach [a] X.env = [(false, eval a X.env)]) (hline : (apos.endLine == cpos.line) = true) :
    PS X (.Expr (.Call (.Attribute (.Name n p) "append" apos) [a] [] cpos) pos) (tS E W (.app i x)) := by
  refine PS.to (ps_expr (pe_bm F.plainAttrs_list F.slot_list_append F.type_list_append mt_append (pe_var hN hv hd hcd) (pa_cons ha pa_nil hs) rfl (by rw [hs]; rfl) hline hs rfl) rfl) fun D σ H h => ?_
  obtain ⟨st, P0, H0, P, r, h⟩ := h
  by_cases ho : ∃ ds, st[i]? = some (some (SV.own (.lst ds)))
  · obtain ⟨ds, hi⟩ := ho
    have e1 : evS E.G (.app i x) st = if isB x = true then .no else (ev E.G x st).out st fun d => if ds.length < 1000000 then .nx (st.set i (some (.own (.lst (ds ++ [d]))))) else .no := by
      show (match st[i]? with
        | some (some (.own (.lst ds))) => if isB x = true then Out.no else (ev E.G x st).out st fun d => if ds.length < 1000000 then .nx (st.set i (some (.own (.lst (ds ++ [d]))))) else .no
        | _ => .no) = _
      rw [hi]
    rw [e1] at h
    cases hb : isB x with
    | true => rw [hb] at h; exact (show False from h).elim
    | false =>
      rw [hb] at h
      obtain ⟨ad, ha, hP, h0, xs, hx, rx⟩ := r.own i _ hi
      refine ⟨_, ha, .inl ⟨rfl, xs, .inl (.inl hx)⟩, ?_⟩
      refine one_s r (show EndsR E W P0 H0 P H D ((ev E.G x st).out st fun d => if ds.length < 1000000 then .nx (st.set i (some (.own (.lst (ds ++ [d]))))) else .no) from h) fun d v H1 s1 r1 k => ?_
      by_cases hl : ds.length < 1000000
      · rw [if_pos hl] at k
        refine ⟨ad, xs, v, rfl, rfl, s1.get ad _ hx (fun _ z => nomatch z), line_lt (by rw [rx.length]; exact hl), ?_⟩
        obtain ⟨r2, t2⟩ := r.chg' (o := .lst (xs ++ [v])) (d' := .lst (ds ++ [d])) s1 hi ha (.inl ⟨_, rfl⟩) ⟨_, upd_same, ((rx.same s1).append (.cons (r1.r hb) .nil)).mono (keepP hP)⟩
        exact k P σ _ r2 t2
      · rw [if_neg hl] at k; exact k.elim
  · exfalso
    have e1 : evS E.G (.app i x) st = .no := by
      show (match st[i]? with
        | some (some (.own (.lst ds))) => if isB x = true then Out.no else (ev E.G x st).out st fun d => if ds.length < 1000000 then .nx (st.set i (some (.own (.lst (ds ++ [d]))))) else .no
        | _ => .no) = _
      split
      · rename_i ds q; exact absurd ⟨ds, q⟩ ho
      · rfl
    rw [e1] at h
    exact h
/-- l.extend(b), b any list -/
def rExtR : V → List V → Hp → VK → Prop := fun x vs H Q => ∃ l b xs zs, x = .ref l ∧ vs = [.ref b] ∧ H l = some (.lst xs) ∧ Rd H b (.lst zs) ∧ xs.length + zs.length ≤ sizeLine ∧ Q .non (upd H l (.lst (xs ++ zs)))
theorem mt_extR : MtR X "list.extend" rExtR := by
  intro pins s σ H x vs v us Q I rx rv h
  obtain ⟨l, b, xs, zs, rfl, rfl, hH, hB, hz, q⟩ := h
  cases rx
  obtain ⟨u, rfl, ru⟩ := rv.one
  cases ru
  obtain ⟨z, its, n, r, hl, e⟩ := I.lstM hH
  obtain ⟨z2, its2, n2, r2, e2⟩ := inv_lst I hB
  have hl2 := r2.length
  have hsz : its.toArray.size + its2.toArray.size ≤ sizeLine := by rw [List.size_toArray, List.size_toArray]; omega
  have hlong : ¬ (!its.toArray.isEmpty && Builtin.List.listTooLong (its.toArray.size + its2.toArray.size)) = true := by
    rw [notLongL hsz, Bool.and_false]
    exact Bool.false_ne_true
  refine call_meets F.slot_list_extend ⟨_, e, rfl⟩ F.entry_list_extend (F.args_list_extend_2 _ _)
    (AutoSeq1.list_extend_list_list_0 l its.toArray n b its2.toArray n2 hlong (by rw [List.size_toArray]; omega) (by omega)) ⟨e, e2, ?_⟩
  refine ⟨.non, _, I.lset (its' := its ++ its2) hH e (by simp) (r.append r2) ?_, rfl, q⟩
  rw [List.length_append]
  omega
theorem s_ext {n : Str} {i : Nat} {p apos cpos : Pos} (hN : X.N[i]? = some n) (hv : Vis X.env.scope n) (hd : (n == ("__debug__" : Str)) = false) (hcd : (n == ("__classdict__" : Str)) = false) (ha : PE X a (tE E W x)) (hs : starEach [a] X.env = [(false, eval a X.env)]) (hline : (apos.endLine == cpos.line) = true) :
    PS X (.Expr (.Call (.Attribute (.Name n p) "extend" apos) [a] [] cpos) pos) (tS E W (.ext i x)) := by
  refine PS.to (ps_expr (pe_bm F.plainAttrs_list F.slot_list_extend F.type_list_extend mt_extR (pe_var hN hv hd hcd) (pa_cons ha pa_nil hs) rfl (by rw [hs]; rfl) hline hs rfl) rfl) fun D σ H h => ?_
  obtain ⟨st, P0, H0, P, r, h⟩ := h
  by_cases ho : ∃ ds, st[i]? = some (some (SV.own (.lst ds)))
  · obtain ⟨ds, hi⟩ := ho
    have e1 : evS E.G (.ext i x) st = if isB x = true then .no else (ev E.G x st).out st fun d => match d with
      | .lst es => if ds.length + es.length ≤ 1000000 then .nx (st.set i (some (.own (.lst (ds ++ es))))) else .no
      | _ => .no := by
      show (match st[i]? with
        | some (some (.own (.lst ds))) => if isB x = true then Out.no else (ev E.G x st).out st fun d => match d with
          | .lst es => if ds.length + es.length ≤ 1000000 then .nx (st.set i (some (.own (.lst (ds ++ es))))) else .no
          | _ => .no
        | _ => .no) = _
      rw [hi]
    rw [e1] at h
    cases hb : isB x with
    | true => rw [hb] at h; exact (show False from h).elim
    | false =>
      rw [hb] at h
      obtain ⟨ad, ha, hP, h0, xs, hx, rx⟩ := r.own i _ hi
      refine ⟨_, ha, .inl ⟨rfl, xs, .inl (.inl hx)⟩, ?_⟩
      refine one_s r (show EndsR E W P0 H0 P H D ((ev E.G x st).out st fun d => match d with
        | .lst es => if ds.length + es.length ≤ 1000000 then .nx (st.set i (some (.own (.lst (ds ++ es))))) else .no
        | _ => .no) from h) fun d v H1 s1 r1 k => ?_
      cases d with
      | lst es =>
        have k' : EndsR E W P0 H0 P H D (if ds.length + es.length ≤ 1000000 then .nx (st.set i (some (.own (.lst (ds ++ es))))) else .no) := k
        by_cases hl : ds.length + es.length ≤ 1000000
        · rw [if_pos hl] at k'
          obtain ⟨b, zs, rfl, rb', rz⟩ := r1.b.lst
          refine ⟨ad, b, xs, zs, rfl, rfl, s1.get ad _ hx (fun _ z => nomatch z), rb', line_mil (by rw [rx.length, rz.length]; exact hl), ?_⟩
          obtain ⟨r2, t2⟩ := r.chg' (o := .lst (xs ++ zs)) (d' := .lst (ds ++ es)) s1 hi ha (.inl ⟨_, rfl⟩) ⟨_, upd_same, ((rx.same s1).append rz).mono (keepP hP)⟩
          exact k' P σ _ r2 t2
        · rw [if_neg hl] at k'; exact k'.elim
      | _ => exact (show False from k).elim
  · exfalso
    have e1 : evS E.G (.ext i x) st = .no := by
      show (match st[i]? with
        | some (some (.own (.lst ds))) => if isB x = true then Out.no else (ev E.G x st).out st fun d => match d with
          | .lst es => if ds.length + es.length ≤ 1000000 then .nx (st.set i (some (.own (.lst (ds ++ es))))) else .no
          | _ => .no
        | _ => .no) = _
      split
      · rename_i ds q; exact absurd ⟨ds, q⟩ ho
      · rfl
    rw [e1] at h
    exact h
/-! ### o[i] = v -/
def rSetA : TSet := fun o i v H Q => rSetL o i v H Q ∨ ∃ a H', o = .ref a ∧ DPut H a i v H' ∧ Q H'
theorem set_any (hu : X.A.units + 1 < cLine) : PSet X rSetA := by
  intro pins s σ H o i v ov iv u Q I ro ri rv h
  rcases h with h | ⟨a, H', rfl, g, q⟩
  · exact set_list pins s σ H o i v ov iv u Q I ro ri rv h
  · cases (show ov = Value.ref a from ro)
    exact d_setItem hu I g ri rv fun s4 I4 => ⟨H', I4, q⟩
theorem ps_sub {to ti tv : TE} {ts : TSet} {o i value : Expr} {pos' : Pos} (hs : PSet X ts) (ho : PE X o to) (hi : PE X i ti) (hv : PE X value tv) (hsw : swapsWith value (some (.Subscript o i pos')) pos.line X.env = pure false) :
    PS X (.Assign [.Subscript o i pos'] value pos) (fun D σ H => tv σ H fun v H1 => to σ H1 fun x H2 => ti σ H2 fun y H3 => ts x y v H3 fun H4 => D.nx σ H4) := by
  refine ⟨fun pins s σ H D I h => ?_⟩
  exact wpAny_Assign_Subscript (thn (hv.run pins s σ H _ I h) fun r s1 ⟨v, H1, I1, rv, q1⟩ => thn (ho.run pins s1 σ H1 _ I1 q1) fun u s2 ⟨x, H2, I2, rx, q2⟩ => thn (hi.run pins s2 σ H2 _ I2 q2) fun iv s3 ⟨y, H3, I3, ry, q3⟩ =>
    thn (hs pins s3 σ H3 x y v u iv r _ I3 rx ry rv q3) fun _ s4 ⟨H4, I4, q4⟩ => ⟨σ, H4, I4, q4⟩) hsw
theorem s_set {n : Str} {i : Nat} {p pos' : Pos} (hu : X.A.units + 1 < cLine) (hN : X.N[i]? = some n) (hv : Vis X.env.scope n) (hd : (n == ("__debug__" : Str)) = false) (hcd : (n == ("__classdict__" : Str)) = false) (hk : PE X b (tE E W y)) (ha : PE X a (tE E W x)) (hsw : swapsWith a (some (.Subscript (.Name n p) b pos')) pos.line X.env = pure false) :
    PS X (.Assign [.Subscript (.Name n p) b pos'] a pos) (tS E W (.set i y x)) := by
  refine PS.to (ps_sub (set_any hu) (pe_var hN hv hd hcd) hk ha hsw) fun D σ H h => ?_
  obtain ⟨st, P0, H0, P, r, h⟩ := h
  have e0 : evS E.G (.set i y x) st = (match st[i]? with
    | some (some (.own (.lst ds))) => if isB x then Out.no else (ev E.G x st).out st fun d => (ev E.G y st).out st fun x => match x with
      | .int j => (match L2.ixN ds.length j with
        | some n => .nx (st.set i (some (.own (.lst (ds.set n d)))))
        | none => .no)
      | _ => .no
    | some (some (.own (.dic ks vs))) => if isB x then Out.no else (ev E.G x st).out st fun d => (ev E.G y st).out st fun x =>
      if isKey x && decide (ks.length < 1000000) then .nx (st.set i (some (.own (.dic (dPut x d ks vs).1 (dPut x d ks vs).2)))) else .no
    | _ => .no) := rfl
  rw [e0] at h
  split at h
  · rename_i ds hi
    cases hb : isB x with
    | true => rw [hb] at h; exact (show False from h).elim
    | false =>
      rw [hb] at h
      obtain ⟨ad, ha', hP, h0, xs, hx, rx⟩ := r.own i _ hi
      refine one_s r (show EndsR E W P0 H0 P H D ((ev E.G x st).out st fun d => (ev E.G y st).out st fun x => match x with
        | .int j => (match L2.ixN ds.length j with
          | some n => .nx (st.set i (some (.own (.lst (ds.set n d)))))
          | none => .no)
        | _ => .no) from h) fun d v H1 s1 r1 k => ⟨_, ha', ?_⟩
      refine one_s (r.mono s1) (k.step (.same s1)) fun d2 v2 H2 s2 r2 k2 => ?_
      cases d2 with
      | int j =>
        cases r2.b.int
        have k3 : EndsR E W P0 H0 P H1 D (match L2.ixN ds.length j with
          | some n => .nx (st.set i (some (.own (.lst (ds.set n d)))))
          | none => .no) := k2
        cases ej : L2.ixN ds.length j with
        | none => rw [ej] at k3; exact (show False from k3).elim
        | some m =>
          rw [ej] at k3
          refine .inl ⟨ad, xs, j, m, rfl, rfl, s2.get ad _ (s1.get ad _ hx (fun _ z => nomatch z)) (fun _ z => nomatch z), by rw [rx.length]; exact ej, ?_⟩
          obtain ⟨r3, t3⟩ := (r.mono s1).chg' (o := .lst (xs.set m v)) (d' := .lst (ds.set m d)) s2 hi ha' (.inl ⟨_, rfl⟩) ⟨_, upd_same, (((rx.same s1).same s2).set m ((r1.r hb).same s2)).mono (keepP hP)⟩
          exact k3 P σ _ r3 t3
      | _ => exact (show False from k2).elim
  · rename_i ks vs hi
    cases hb : isB x with
    | true => rw [hb] at h; exact (show False from h).elim
    | false =>
      rw [hb] at h
      obtain ⟨ad, ha', hP, h0, kvs, hx, nd, ek, rx⟩ := r.own i _ hi
      refine one_s r (show EndsR E W P0 H0 P H D ((ev E.G x st).out st fun d => (ev E.G y st).out st fun x =>
        if isKey x && decide (ks.length < 1000000) then .nx (st.set i (some (.own (.dic (dPut x d ks vs).1 (dPut x d ks vs).2)))) else .no) from h) fun d v H1 s1 r1 k => ⟨_, ha', ?_⟩
      refine one_s (r.mono s1) (k.step (.same s1)) fun d2 v2 H2 s2 r2 k2 => ?_
      cases hc : (isKey d2 && decide (ks.length < 1000000)) with
      | false => rw [hc] at k2; exact (show False from k2).elim
      | true =>
        rw [hc] at k2
        obtain ⟨c1, c2⟩ := Bool.and_eq_true_iff.mp hc
        obtain ⟨kk, rfl⟩ := isKey_of c1
        have ev2 := repB_key r2.b
        subst ev2
        subst ek
        have hl : kvs.length < sizeLine := line_lt (by have := of_decide_eq_true c2; rw [List.length_map] at this; exact this)
        obtain ⟨i1, i2, i3⟩ := dput_ok kk ((r1.r hb).same s2) nd ((rx.same s1).same s2)
        refine .inr ⟨ad, _, rfl, DPut.k (s2.get ad _ (s1.get ad _ hx (fun _ z => nomatch z)) (fun _ z => nomatch z)) hl, ?_⟩
        obtain ⟨r3, t3⟩ := (r.mono s1).chg' (o := .dK (putK kvs kk v)) (d' := .dic (dPut (keyD kk) d (kvs.map fun p => keyD p.1) vs).1 (dPut (keyD kk) d (kvs.map fun p => keyD p.1) vs).2) s2 hi ha' (.inr ⟨_, rfl⟩) ⟨_, upd_same, i3, i1, i2.mono (keepP hP)⟩
        exact (show ∀ P' σ' H', RlS E P0 H0 P' _ σ' H' → Stp P H1 P' H' → D.nx σ' H' from k2) P σ _ r3 t3
  · exact h.elim
/-! ### pop -/
theorem pop_rd {t : Tg} {i : Nat} {l : Ex} {te : TE} (hte : ∀ (ad : Addr) (xs : List V) (v : V) (ys : List V) (σ : L2.St) (H : Hp) (Q : VK), σ[i]? = some (some (.ref ad)) → H ad = some (.lst xs) → (l = .nil ∧ xs[xs.length - 1]? = some v ∧ ys = xs.dropLast ∨ l = .cons (.k (.int 0)) .nil ∧ xs = v :: ys) →
    Q v (upd H ad (.lst ys)) → te σ H Q) (h : tS E W (.pop t i l) dn σ H) : tAsg te (gOf E.K t) dn σ H := by
  obtain ⟨st, P0, H0, P, r, h⟩ := h
  have e0 : evS E.G (.pop t i l) st = (match (generalizing := false) st[i]?, l with
    | some (some (.own (.lst ds))), .nil => (match ds[ds.length - 1]? with
      | some d => .of (bindT t d (st.set i (some (.own (.lst ds.dropLast)))))
      | none => .no)
    | some (some (.own (.lst ds))), .cons (.k (.int 0)) .nil => (match ds with
      | d :: r => .of (bindT t d (st.set i (some (.own (.lst r)))))
      | [] => .no)
    | _, _ => .no) := rfl
  rw [e0] at h
  have fin : ∀ {ad : Addr} {ds ds' : List D} {xs ys : List V} {d : D} {v : V}, st[i]? = some (some (.own (.lst ds))) → σ[i]? = some (some (.ref ad)) → P ad → Rep E.K E.cl P H v d → Reps E.K E.cl P H ys ds' →
      EndsR E W P0 H0 P H dn (.of (bindT t d (st.set i (some (.own (.lst ds')))))) → gOf E.K t v σ (upd H ad (.lst ys)) dn.nx := fun {ad ds ds' xs ys d v} hi ha hP rv ry k => by
    obtain ⟨st', e, q⟩ := of_ k
    obtain ⟨r3, t3⟩ := r.chg' (o := .lst ys) (d' := .lst ds') (Sm.refl H) hi ha (.inl ⟨_, rfl⟩) ⟨_, upd_same, ry.mono (keepP hP)⟩
    exact gof_ok (rv.mono (keepP hP)) e r3.len fun σ' u => q P σ' _ (r3.up u) t3
  split at h
  · rename_i ds hi
    obtain ⟨ad, ha', hP, h0, xs, hx, rx⟩ := r.own i _ hi
    split at h
    · rename_i d hd
      obtain ⟨v, hv, rv⟩ := rx.get hd
      rw [← rx.length] at hv
      have rdl : Reps E.K E.cl P H xs.dropLast ds.dropLast := by
        rw [List.dropLast_eq_take, List.dropLast_eq_take, rx.length]
        exact rx.take _
      exact hte ad xs v xs.dropLast σ H _ ha' hx (.inl ⟨rfl, hv, rfl⟩) (fin (xs := xs) hi ha' hP rv rdl h)
    · exact h.elim
  · rename_i ds hi
    obtain ⟨ad, ha', hP, h0, xs, hx, rx⟩ := r.own i _ hi
    cases rx with
    | nil => exact (show False from h).elim
    | cons rv ry => exact hte ad _ _ _ σ H _ ha' hx (.inr ⟨rfl, rfl⟩) (fin (xs := []) hi ha' hP rv ry h)
  · exact h.elim
theorem s_pop0 {n : Str} {i : Nat} {t : Tg} {p apos cpos kp : Pos} {j : Nat} (hN : X.N[i]? = some n) (hv : Vis X.env.scope n) (hd : (n == ("__debug__" : Str)) = false) (hcd : (n == ("__classdict__" : Str)) = false) (hg : PG X tg (gOf E.K t)) (hline : (apos.endLine == cpos.line) = true)
    (h1 : (assignEach [tg] X.env).map (·.2) = [assign tg X.env]) (hsw : swapsWithSole [tg] (.Call (.Attribute (.Name n p) "pop" apos) [.Constant (.int 0) j kp] [] cpos) pos.line X.env = pure false) (hw : swappedStores [tg] (.Call (.Attribute (.Name n p) "pop" apos) [.Constant (.int 0) j kp] [] cpos) X.env = pure none) :
    PS X (.Assign [tg] (.Call (.Attribute (.Name n p) "pop" apos) [.Constant (.int 0) j kp] [] cpos) pos) (tS E W (.pop t i (.cons (.k (.int 0)) .nil))) := by
  refine PS.to (ps_asg (pe_bm F.plainAttrs_list F.slot_list_pop F.type_list_pop mt_popAt (pe_var hN hv hd hcd) (pa_cons pe_int pa_nil rfl) rfl rfl hline rfl rfl) hg hsw hw h1) fun D σ H h => ?_
  refine pop_rd (fun ad xs v ys σ H Q h1 h2 h3 q => ?_) h
  rcases h3 with ⟨z, _⟩ | ⟨_, rfl⟩
  · cases z
  · exact ⟨_, h1, .inl ⟨rfl, _, .inl (.inl h2)⟩, ad, v :: ys, 0, 0, v, rfl, rfl, h2, by decide, by decide, by unfold seqIndex?; simp, rfl, q⟩
theorem s_pop {n : Str} {i : Nat} {t : Tg} {p apos cpos : Pos} (hN : X.N[i]? = some n) (hv : Vis X.env.scope n) (hd : (n == ("__debug__" : Str)) = false) (hcd : (n == ("__classdict__" : Str)) = false) (hg : PG X tg (gOf E.K t)) (hline : (apos.endLine == cpos.line) = true)
    (h1 : (assignEach [tg] X.env).map (·.2) = [assign tg X.env]) (hsw : swapsWithSole [tg] (.Call (.Attribute (.Name n p) "pop" apos) [] [] cpos) pos.line X.env = pure false) (hw : swappedStores [tg] (.Call (.Attribute (.Name n p) "pop" apos) [] [] cpos) X.env = pure none) :
    PS X (.Assign [tg] (.Call (.Attribute (.Name n p) "pop" apos) [] [] cpos) pos) (tS E W (.pop t i .nil)) := by
  refine PS.to (ps_asg (pe_bm0 F.plainAttrs_list F.slot_list_pop F.type_list_pop mt_pop (pe_var hN hv hd hcd) rfl hline) hg hsw hw h1) fun D σ H h => ?_
  refine pop_rd (fun ad xs v ys σ H Q h1 h2 h3 q => ?_) h
  rcases h3 with ⟨_, e, rfl⟩ | ⟨z, _⟩
  · exact ⟨_, h1, .inl ⟨rfl, _, .inl (.inl h2)⟩, ad, xs, v, rfl, rfl, h2, e, q⟩
  · cases z
end
end Z

/-! Zw: stores into a new instance. -/
namespace Z
open PySem PySem.Spec PyProof.Rows L2
section
variable {E : En} {W : WX} {X : Cx} {P0 P P' P1 P2 : Addr → Prop} {st st' : Sl} {σ σ' : L2.St} {H0 H H' H1 H2 : Hp} {dn : Ends} {x y z : Ex} {a b c tg : Expr} {pos : Pos}
theorem putS_len (i : Nat) (v : V) (vs : List (Option V)) : (SlX.putS i v vs).length = vs.length + (i + 1 - vs.length) := by
  unfold SlX.putS
  simp
theorem slt_dx {b C dx a : Addr} {vs : List (Option V)} (h : SlX.Slt H b C dx vs) (h9 : vs = [] → H dx = some (.own b)) : (∃ u, H b = some u ∧ (∀ xs, u ≠ .lst xs) ∧ (∀ kvs, u ≠ .dK kvs)) ∧ ∃ u, H dx = some u ∧ (∀ xs, u ≠ .lst xs) ∧ (∀ kvs, u ≠ .dK kvs) ∧ (u = .own b ∨ u = .xd []) := by
  rcases h with ⟨q, z⟩ | ⟨q, z⟩
  · exact ⟨⟨_, q, (fun _ w => nomatch w), (fun _ w => nomatch w)⟩, _, h9 z, (fun _ w => nomatch w), (fun _ w => nomatch w), .inl rfl⟩
  · exact ⟨⟨_, q, (fun _ w => by unfold SlX.SlO at w; cases w), (fun _ w => by unfold SlX.SlO at w; cases w)⟩, _, z, (fun _ w => nomatch w), (fun _ w => nomatch w), .inr rfl⟩
theorem RlS.fldU (r : RlS E P0 H0 P st σ H) {i c j : Nat} {fs : List (Option D)} {a dx : Addr} {vs : List (Option V)} {v : V} {d : D} (hi : st[i]? = some (some (.slf c fs))) (ha : σ[i]? = some (some (.ref a))) (hj : j < fs.length) (rv : Rep E.K E.cl P H v d)
    (hP : P a) (hPx : P dx) (h0 : H0 a = none) (h0x : H0 dx = none) (hs : SlX.Slt H a (E.cl c) dx vs) (hl : vs.length ≤ fs.length) (h9 : vs = [] → H dx = some (.own a)) (h8 : ∀ (j : Nat) (d : D), fs[j]? = some (some d) → ∃ v, vs[j]? = some (some v) ∧ Rep E.K E.cl P H v d) (hne : dx ≠ a) :
    RlS E P0 H0 P (st.set i (some (.slf c (fs.set j (some d))))) σ (SlX.slH H a (E.cl c) dx (SlX.putS j v vs)) ∧ Stp P H P (SlX.slH H a (E.cl c) dx (SlX.putS j v vs)) := by
  have hlt : i < st.length := (List.getElem?_eq_some_iff.mp hi).1
  have kp3 : ∀ b o, ¬ P b → H b = some o → (SlX.slH H a (E.cl c) dx (SlX.putS j v vs)) b = some o := fun b o n e => by
    rw [SlX.slH_ne (fun z => n (by rw [z]; exact hP)) fun z => n (by rw [z]; exact hPx)]
    exact e
  have kp : ∀ b o, ¬ P b → NT o → H b = some o → (SlX.slH H a (E.cl c) dx (SlX.putS j v vs)) b = some o := fun b o n _ e => kp3 b o n e
  obtain ⟨⟨ua, qa, a1, a2⟩, ud, qd, d1, d2, dor⟩ := slt_dx (a := a) hs h9
  have d3 : ∀ ps, ud ≠ .tbl ps := fun ps z => by rcases dor with w | w <;> (rw [w] at z; cases z)
  have kp2 : ∀ b, b ≠ a → b ≠ dx → ∀ o, NT o → H b = some o → (SlX.slH H a (E.cl c) dx (SlX.putS j v vs)) b = some o := fun b n m o _ e => by rw [SlX.slH_ne n m]; exact e
  have frS : ∀ b, (SlX.slH H a (E.cl c) dx (SlX.putS j v vs)) b = none → H b = none := fun b e => by
    by_cases hb : b = a
    · rw [hb] at e; unfold SlX.slH at e; rw [upd_same] at e; cases e
    · by_cases hb2 : b = dx
      · rw [hb2] at e; unfold SlX.slH at e; rw [upd_ne hne, upd_same] at e; cases e
      · rw [SlX.slH_ne hb hb2] at e; exact e
  have own_ne : ∀ {b : Addr} {e : D}, OwnAt E.K E.cl P H b e → b ≠ a ∧ b ≠ dx := fun {b e} o => by
    have q : (∃ xs, H b = some (.lst xs)) ∨ ∃ kvs, H b = some (.dK kvs) := by
      cases e with
      | lst ds => obtain ⟨xs, q, _⟩ := o; exact .inl ⟨xs, q⟩
      | dic ks vs => obtain ⟨kvs, q, _⟩ := o; exact .inr ⟨kvs, q⟩
      | _ => cases o
    rcases q with ⟨xs, q⟩ | ⟨kvs, q⟩
    · exact ⟨fun z => by rw [z, qa] at q; cases q; exact a1 _ rfl, fun z => by rw [z, qd] at q; cases q; exact d1 _ rfl⟩
    · exact ⟨fun z => by rw [z, qa] at q; cases q; exact a2 _ rfl, fun z => by rw [z, qd] at q; cases q; exact d2 _ rfl⟩
  have tfld : ∀ {Q : Addr → Prop}, Tbs Q E.T H → Tbs Q E.T (SlX.slH H a (E.cl c) dx (SlX.putS j v vs)) := fun {Q} t => by
    refine t.at (fun b ps e => ?_) fun b q e => ?_
    · rw [SlX.slH_ne]
      · exact e
      · intro z
        rw [z] at e
        rcases hs with ⟨w, _⟩ | ⟨w, _⟩
        · rw [w] at e; cases e
        · rw [w] at e; unfold SlX.SlO at e; cases e
      · intro z
        rw [z, qd] at e
        cases e
        exact d3 _ rfl
    · rw [SlX.slH_ne]
      · exact e
      · intro z
        rw [z] at e
        rcases hs with ⟨w, _⟩ | ⟨w, _⟩
        · rw [w] at e; unfold LamX.CodeO at e; cases e
        · rw [w] at e; exact slO_code (Option.some.inj e) rfl
      · intro z
        rw [z, qd] at e
        cases e
        rcases dor with w | w <;> (unfold LamX.CodeO at w; cases w)
  refine ⟨⟨fun b z => ?_, r.dom0, r.sub, r.new, ⟨fun b u e n => ?_, fun {b} e => r.same.free (frS b e), fun Q dq tq => ?_⟩, tfld r.tab, r.tab0, by simp [r.len], fun k e q => ?_, fun k e q => ?_, fun k e q => ?_, fun k l e f b q1 q2 q3 q4 => ?_, fun k c' fs' q => ?_, fun k l c1 c2 f1 f2 q1 q2 => ?_, fun k c1 f1 q1 => ?_⟩, kp, (fun a z => .inl z), frS⟩
  · by_cases hb : b = a
    · rw [hb]; unfold SlX.slH; rw [upd_same]; exact fun z => nomatch z
    · by_cases hb2 : b = dx
      · rw [hb2]; unfold SlX.slH; rw [upd_ne hne, upd_same]; exact fun z => nomatch z
      · rw [SlX.slH_ne hb hb2]; exact r.dom b z
  · exact kp2 b (fun z => by rw [z, h0] at e; cases e) (fun z => by rw [z, h0x] at e; cases e) u n (r.same.get b u e n)
  · exact tfld (r.same.tab Q dq tq)
  · by_cases h : i = k
    · subst h; rw [List.getElem?_set_self hlt] at q; cases q
    · rw [List.getElem?_set_ne h] at q
      obtain ⟨w, h1, h2⟩ := r.val k e q
      exact ⟨w, h1, h2.mono kp⟩
  · by_cases h : i = k
    · subst h; rw [List.getElem?_set_self hlt] at q; cases q
    · rw [List.getElem?_set_ne h] at q
      obtain ⟨w, h1, h2⟩ := r.brw k e q
      exact ⟨w, h1, h2.imp (fun q => q.mono kp) fun ⟨b, eb, n, q⟩ => ⟨b, eb, n, q.mono kp (kp2 b (own_ne q).1 (own_ne q).2)⟩⟩
  · by_cases h : i = k
    · subst h; rw [List.getElem?_set_self hlt] at q; cases q
    · rw [List.getElem?_set_ne h] at q
      obtain ⟨b, h1, h2, h3, h4⟩ := r.own k e q
      exact ⟨b, h1, h2, h3, h4.mono kp (kp2 b (own_ne h4).1 (own_ne h4).2)⟩
  · by_cases h : i = k
    · subst h; rw [List.getElem?_set_self hlt] at q1; cases q1
    · by_cases h' : i = l
      · subst h'; rw [List.getElem?_set_self hlt] at q2; cases q2
      · rw [List.getElem?_set_ne h] at q1; rw [List.getElem?_set_ne h'] at q2; exact r.inj k l e f b q1 q2 q3 q4
  · by_cases h : i = k
    · subst h
      rw [List.getElem?_set_self hlt] at q
      cases q
      refine ⟨a, dx, SlX.putS j v vs, ha, hP, hPx, h0, h0x, hne, SlX.slH_slt hne, by rw [putS_len, List.length_set]; omega, fun z => ?_, fun m e q => ?_⟩
      · have := putS_len j v vs
        rw [z] at this
        simp at this
        omega
      · by_cases hm : j = m
        · subst hm
          rw [List.getElem?_set_self hj] at q
          cases q
          exact ⟨v, SlX.putS_get j v vs, rv.mono kp⟩
        · rw [List.getElem?_set_ne hm] at q
          obtain ⟨w, k1, k2⟩ := h8 m e q
          exact ⟨w, (SlX.putS_ne fun z => hm z.symm).mpr k1, k2.mono kp⟩
    · rw [List.getElem?_set_ne h] at q
      exact absurd (r.uni i k c c' fs fs' hi q) h
  · have un : ∀ (k c1 : Nat) (f1 : List (Option D)), (st.set i (some (SV.slf c (fs.set j (some d)))))[k]? = some (some (SV.slf c1 f1)) → ∃ c2 f2, st[k]? = some (some (SV.slf c2 f2)) := fun k c1 f1 q => by
      by_cases h : i = k
      · subst h; exact ⟨c, fs, hi⟩
      · rw [List.getElem?_set_ne h] at q; exact ⟨c1, f1, q⟩
    obtain ⟨_, _, z1⟩ := un k c1 f1 q1
    obtain ⟨_, _, z2⟩ := un l c2 f2 q2
    exact r.uni k l _ _ _ _ z1 z2
  · by_cases h : i = k
    · subst h; exact r.me i c fs hi
    · rw [List.getElem?_set_ne h] at q1; exact r.me k c1 f1 q1
theorem s_fld {n f : Str} {i k : Nat} {p pos' : Pos} (hK : X.K = E.K) (ok : AttOk E X f k) (hN : X.N[i]? = some n) (hv : Vis X.env.scope n) (hd : (n == ("__debug__" : Str)) = false) (hcd : (n == ("__classdict__" : Str)) = false) (ha : PE X a (tE E W x)) (hsw : swapsWith a (some (.Attribute (.Name n p) f pos')) pos.line X.env = pure false) :
    PS X (.Assign [.Attribute (.Name n p) f pos'] a pos) (tS E W (.fld i k x)) := by
  refine PS.to (SlX.ps_sl (pe_var hN hv hd hcd) ha hsw) fun D σ H h => ?_
  obtain ⟨st, P0, H0, P, r, h⟩ := h
  have e0 : evS E.G (.fld i k x) st = (match st[i]? with
    | some (some (.slf c fs)) => if isB x then Out.no else (ev E.G x st).out st fun d => match E.G.sl c k with
      | some j => if j < fs.length then .nx (st.set i (some (.slf c (fs.set j (some d))))) else .no
      | none => .no
    | _ => .no) := rfl
  rw [e0] at h
  split at h
  · rename_i c fs hi
    cases hb : isB x with
    | true => rw [hb] at h; exact (show False from h).elim
    | false =>
      rw [hb] at h
      refine one_s r (show EndsR E W P0 H0 P H D ((ev E.G x st).out st fun d => match E.G.sl c k with
        | some j => if j < fs.length then .nx (st.set i (some (.slf c (fs.set j (some d))))) else .no
        | none => .no) from h) fun d v H1 s1 r1 k1 => ?_
      cases ej : E.G.sl c k with
      | none => rw [ej] at k1; exact (show False from k1).elim
      | some j =>
        rw [ej] at k1
        have k2 : EndsR E W P0 H0 P H D (if j < fs.length then .nx (st.set i (some (.slf c (fs.set j (some d))))) else .no) := k1
        by_cases hj : j < fs.length
        · rw [if_pos hj] at k2
          obtain ⟨ad, dx, vs, q1, q2, q3, q4, q5, qn, q6, q7, q9, q8⟩ := (r.mono s1).slf i c fs hi
          obtain ⟨pp, sl⟩ := ok.slot c j ej
          refine ⟨_, q1, ad, E.cl c, dx, pp, vs, j, rfl, q6, ok.cls c (.inl (by rw [ej]; rfl)), sl, ?_⟩
          obtain ⟨r2, t2⟩ := (r.mono s1).fldU hi q1 hj (r1.r hb) q2 q3 q4 q5 q6 q7 q9 q8 qn
          exact k2 P σ _ r2 ((Stp.same s1).trans t2)
        · rw [if_neg hj] at k2; exact k2.elim
  · exact h.elim
end
end Z

/-! Zb: plain parameters are bound one after another. -/
namespace Z
open PySem
theorem look_zip : ∀ {ns : List Str} {us : List Value}, ns.length = us.length → ns.Nodup → ns.filterMap (fun n => ((ns.zip us).lookup n).map (n, ·)) = ns.zip us
  | [], [], _, _ => rfl
  | n :: ns, u :: us, hl, nd => by
    obtain ⟨h1, h2⟩ := List.nodup_cons.mp nd
    have ih := look_zip (ns := ns) (us := us) (by simpa using hl) h2
    rw [List.zip_cons_cons, List.filterMap_cons]
    simp only [List.lookup_cons, beq_self_eq_true, Option.map_some]
    congr 1
    refine Eq.trans ?_ ih
    have cg : ∀ {l : List Str} {f g : Str → Option (Str × Value)}, (∀ m ∈ l, f m = g m) → l.filterMap f = l.filterMap g := fun {l f g} h => by
      induction l with
      | nil => rfl
      | cons a l ih => rw [List.filterMap_cons, List.filterMap_cons, h a List.mem_cons_self, ih fun m hm => h m (List.mem_cons_of_mem _ hm)]
    refine cg fun m hm => ?_
    have : (m == n) = false := by
      rw [beq_eq_false_iff_ne]
      intro z
      exact h1 (z ▸ hm)
    rw [this]
  | [], _ :: _, h, _ => by simp at h
  | _ :: _, [], h, _ => by simp at h
theorem look_some : ∀ {ns : List Str} {us : List Value}, ns.length = us.length → ∀ n ∈ ns, ((ns.zip us).lookup n).isNone = false
  | n :: ns, u :: us, hl, m, hm => by
    rw [List.zip_cons_cons, List.lookup_cons]
    by_cases e : (m == n) = true
    · rw [e]; rfl
    · have e' : (m == n) = false := by simpa using e
      rw [e']
      rcases List.mem_cons.mp hm with z | z
      · subst z; simp at e
      · exact look_some (by simpa using hl) m z
  | _ :: _, [], h, _, _ => by simp at h
theorem bind_all {fd : FuncData} {as : List Arg} {us : List Value} (hp : fd.params = ⟨[], as, none, [], [], none, []⟩) (hd : fd.defaults = .none) (nd : (as.map (·.arg)).Nodup) (hl : us.length = as.length) : bindArgs fd ⟨us, []⟩ = pure ((as.map (·.arg)).zip us) := by
  have hl' : (as.map (·.arg)).length = us.length := by simp [hl]
  have hm : (as.map (·.arg)).filter (fun n => (((as.map (·.arg)).zip us).lookup n).isNone) = [] := List.filter_eq_nil_iff.mpr fun n hn => by rw [look_some hl' n hn]; exact Bool.false_ne_true
  unfold bindArgs
  simp only [hp, hd, List.map_nil, List.nil_append, List.append_nil]
  have hs : seqItems? Value.none = pure none := rfl
  rw [hs]
  have lz := look_zip hl' nd
  rw [List.filterMap_map] at lz
  have hm2 : ∀ k : Nat, (List.filter (fun n => (List.lookup n ((List.map (fun x => x.arg) as).zip us)).isNone) (List.take ((List.map (fun x => x.arg) as).length - (List.drop k ([] : List Value)).length) (List.map (fun x => x.arg) as))).isEmpty = true := fun k => by
    rw [List.drop_nil, List.length_nil, Nat.sub_zero, List.take_length, hm]
    rfl
  simp [hl, hm2, lz]
  intro x hx hno
  exfalso
  have h1 := look_some hl' x (List.mem_of_mem_take hx)
  cases e : ((as.map (·.arg)).zip us).lookup x with
  | none => rw [e] at h1; cases h1
  | some v => exact hno v (PySem.mem_of_lookup e)
end Z

/-! Zl: sorted(xs, key=lambda x: (len(x), x)), xs tuples of ints. -/
namespace Z
open PySem PySem.Spec PyProof.Rows L2
def ltLen (a b : List Int) : Bool := if a.length = b.length then HT.lexLt a b else decide (a.length < b.length)
theorem ltLen_swo {α : Type} (k : α → List Int) : SrtO.Swo (fun v u : α => ltLen (k v) (k u)) := by
  have O := NtL.swo_lexL k
  refine ⟨fun x y h => ?_, fun x y z h1 h2 => ?_⟩
  · unfold ltLen at h ⊢
    split at h
    · rename_i e
      rw [if_pos e.symm]
      exact O.asym x y h
    · rename_i e
      rw [if_neg fun z => e z.symm]
      simp only [decide_eq_true_eq, decide_eq_false_iff_not] at h ⊢
      omega
  · unfold ltLen at h1 h2 ⊢
    by_cases e1 : (k y).length = (k x).length
    · by_cases e2 : (k z).length = (k y).length
      · rw [if_pos e1] at h1
        rw [if_pos e2] at h2
        rw [if_pos (e2.trans e1)]
        exact O.tr x y z h1 h2
      · rw [if_neg e2] at h2
        rw [if_neg fun z => e2 (z.trans e1.symm)]
        simp only [decide_eq_false_iff_not] at h2 ⊢
        omega
    · rw [if_neg e1] at h1
      simp only [decide_eq_false_iff_not] at h1
      by_cases e2 : (k z).length = (k y).length
      · rw [if_neg fun z => e1 (e2.symm.trans z)]
        simp only [decide_eq_false_iff_not]
        omega
      · rw [if_neg e2] at h2
        simp only [decide_eq_false_iff_not] at h2
        rw [if_neg (by omega)]
        simp only [decide_eq_false_iff_not]
        omega
/-! ### the lambda is called -/
theorem lam_run {P : Program} {w : World} {K : PySem.W.Frag} {mg : Str → Option Value} {base : Heap} {k : Nat} {f c' : Addr} {q n : Str} {params : Arguments} {body : Expr} {scope : Scope} {pm ctv : Value} {A : Around} {outer : List Env} {s : Shared} {H : Hp} {u : Value} {v : V} {Q : VK} {XE : XK} {t : TE}
    (hf : s.heap.get? f = some (PySem.W.kla_obj "<lambda>" q params body scope [] pm c' ctv)) (hc : s.heap.CodeRec (.ref c') q) (S : FnScope [n] [n] scope) (hb : bindArgs (PySem.W.kla_fn "<lambda>" q params body scope [] pm (.ref c') ctv) ⟨[u], []⟩ = pure [(n, u)])
    (hr : Room (k + 1) A) (e0 : Env0 P w K mg base A outer s H) (rv : RelV v u) (hbody : PE (cxOf (L2.CX P w) P w K mg base [n] q scope f (.ref c') A outer s H XE) body t) (hq : t [some v] H Q) :
    codeAny (model P w) A (.call (.ref f) ⟨[u], []⟩) (CR (L2.CX P w) outer P w H s Q XE) s := by
  have lim : s.heap.NoLimit := e0.mod.nolimit.keeps fun b o e => (e0.bs b o e).1
  refine PySem.W.kla_callFunE hr.depth hf rfl S.co S.gen rfl hc ?_
  rw [hb]
  refine wpAny_pure (wpAny_newFunctionEnv_cells S.kind (fun y hy => ?_) fun env he s1 x => ?_)
  · rcases S.par y.1 (by rw [List.mem_singleton.mp hy]; exact List.mem_singleton.mpr rfl) with z | z
    · exact .inl z
    · exact .inr ⟨z, PySem.W.cellsFrom_some _ _ _ (.inl z)⟩
  · subst he
    refine ⟨lim.keeps x.toInCall.keep, PySem.W.kla_codeExpr ?_⟩
    have I : Inv (cxOf (L2.CX P w) P w K mg base [n] q scope f (.ref c') A outer s H XE) [] (start [n] [v]) H s1 := inv_start (ps := [n]) (us := [u]) S hr.hd e0 rfl (.cons rv .nil) x
    refine wpAny_mono (hbody.run [] s1 _ H Q I hq) (fun y s' hs => ?_) fun e s' hs => hs
    obtain ⟨v', H', J, rv', q'⟩ := hs
    exact ⟨v', H', J.os, J.bare, J.base, J.hok, rv', q'⟩
/-- the body (len(x), x) -/
theorem lam_body {X : Cx} {n : Str} {p1 p2 p3 p4 p5 : Pos} {k1 : Nat} (hN : X.N[0]? = some n) (hv : Vis X.env.scope n) (hd : (n == ("__debug__" : Str)) = false) (hcd : (n == ("__classdict__" : Str)) = false) (hg : Gl X "len") (hm : X.mg "len" = none) :
    PE X (.Tuple [.Call (.Name "len" p1) [.Name n p2] [] p3, .Name n p4] k1 p5) (fun σ H Q => ∃ a xs, σ[0]? = some (some (.ref a)) ∧ SqT X.K H a xs ∧ ∀ p, H p = none → Q (.ref p) (upd H p (.tup [.int xs.length, .ref a]))) := by
  have pv : ∀ pos, PE X (.Name n pos) (tVar 0) := fun pos => pe_var hN hv hd hcd
  refine PE.to (pe_tup (pa_cons (pe_callB call_len_seq hg hm (by rfl) (pa_cons (pv p2) pa_nil)) (pa_cons (pv p4) pa_nil))) fun σ H Q h => ?_
  obtain ⟨a, xs, h1, h2, h3⟩ := h
  exact ⟨_, h1, a, xs, rfl, .inr h2, _, h1, line_mil (by show 2 ≤ 1000000; decide), fun p hp => h3 p hp⟩
/-! ### keys -/
section
variable {X : Cx} {pins : List (Addr × Obj)} {σ : L2.St} {H : Hp} {s : Shared}
theorem eqv_ints : ∀ {ns ms : List Int}, PyData.eqvAll (ns.map PyData.int) (ms.map PyData.int) = true → ns = ms
  | [], [], _ => rfl
  | n :: ns, m :: ms, h => by
    obtain ⟨h1, h2⟩ := Bool.and_eq_true_iff.mp (show ((n == m) && PyData.eqvAll (ns.map PyData.int) (ms.map PyData.int)) = true from h)
    rw [beq_iff_eq.mp h1, eqv_ints h2]
  | [], _ :: _, h => by cases h
  | _ :: _, [], h => by cases h
theorem lexLt_self : ∀ ns : List Int, HT.lexLt ns ns = false
  | [] => rfl
  | n :: ns => by rw [HT.lexLt_cons, if_pos rfl]; exact lexLt_self ns
/-- a key: (len(t), t), t a tuple of the ints ns -/
def KeyH (K : PySem.W.Frag) (H : Hp) (v : Value) (ns : List Int) : Prop := ∃ a t, v = .ref a ∧ H a = some (.tup [.int ns.length, .ref t]) ∧ SqT K H t (ns.map V.int)
theorem dp_ints {K : PySem.W.Frag} {t : Addr} {ns : List Int} (h : SqT K H t (ns.map V.int)) : Dp K H (.ref t) (.tuple (ns.map PyData.int)) := by
  have all : ∀ ns : List Int, DpAll K H (ns.map V.int) (ns.map PyData.int) := fun ns => by
    induction ns with
    | nil => exact .nil
    | cons n ns ih => exact .cons (.int n) ih
  exact .tup h (all ns)
theorem lay_ints : ∀ ns : List Int, PyData.canLayAll0 (ns.map PyData.int) = true
  | [] => rfl
  | n :: ns => by show (true && PyData.canLayAll0 (ns.map PyData.int)) = true; rw [lay_ints ns]; rfl
theorem dep_ints : ∀ ns : List Int, PyData.depthAll (ns.map PyData.int) = 0
  | [] => rfl
  | n :: ns => by show max 0 (PyData.depthAll (ns.map PyData.int)) = 0; rw [dep_ints ns]; rfl
theorem key_lt {A : Around} (hu : A.units + 65 < cLine) (I : Inv X pins σ H s) {v u : Value} {ns ms : List Int} (h1 : KeyH X.K H v ns) (h2 : KeyH X.K H u ms) :
    wpAny (model X.prog X.w) A (keyLt' (tuples' true) v u) (fun r s' => s' = s ∧ r = ltLen ns ms) (fun _ _ => False) s := by
  obtain ⟨a, t, rfl, ha, ht⟩ := h1
  obtain ⟨b, t', rfl, hb, ht'⟩ := h2
  obtain ⟨_, its, r1, o1, e1, c1, n1, d1⟩ := I.hok a _ ha
  obtain ⟨_, its', r2, o2, e2, c2, n2, d2⟩ := I.hok b _ hb
  obtain ⟨u1, u2, rfl, q1, q2⟩ := r1.two
  obtain ⟨w1, w2, rfl, q3, q4⟩ := r2.two
  obtain ⟨k1, rfl⟩ := q1
  obtain ⟨k2, rfl⟩ := q3
  cases q2
  cases q4
  refine PySem.W.kat_lt e1 d1 e2 d2 ?_
  show PySem.W.KatLex _ _ A true (decide (2 < 2)) _ [(.int (ns.length : Int) k1, .int (ms.length : Int) k2), (.ref t, .ref t')] 0 s
  refine PySem.W.kat_cons (SeqAt.EqAt.int_int _ k1 _ k2 X.prog X.w _ _ ?_)
  refine PySem.W.kat_go (fun e => ?_) (fun e => ?_)
  · have el : ns.length = ms.length := by
      have : (ns.length : Int) = (ms.length : Int) := by simpa using e
      omega
    have er : ltLen ns ms = HT.lexLt ns ms := by unfold ltLen; rw [if_pos el]
    obtain ⟨as, g1⟩ := Dp.reads I _ (.ref t) (.ref t) (dp_ints ht) rfl
    obtain ⟨bs, g2⟩ := Dp.reads I _ (.ref t') (.ref t') (dp_ints ht') rfl
    refine PySem.W.kat_yes (PySem.W.kat_cons (SeqAt.eqAt_reads _ _ _ _ _ _ as bs g1 g2 ?_ ?_ ?_ X.prog X.w _ _ ?_))
    · exact lay_ints ns
    · exact lay_ints ms
    · show A.units + min (PyData.depthAll (ns.map PyData.int) + 1) (PyData.depthAll (ms.map PyData.int) + 1) < cLine
      rw [dep_ints, dep_ints]
      show A.units + 1 < cLine
      omega
    · refine PySem.W.kat_go (fun e2 => ?_) (fun e2 => ?_)
      · refine PySem.W.kat_yes (PySem.W.kat_nil ⟨rfl, ?_⟩)
        rw [er, eqv_ints (show PyData.eqvAll _ _ = true from e2), lexLt_self]
        rfl
      · obtain ⟨i1, v1, p1, _⟩ := I.tuple ht
        obtain ⟨i2, v2, p2, _⟩ := I.tuple ht'
        refine PySem.W.kat_no (PySem.W.kat_one _ _ (HT.lt_tupInts p1 p2 (by simpa using intsAre_of v1) (by simpa using intsAre_of v2) (by omega) ?_))
        exact (show s = s ∧ HT.lexLt ns ms = ltLen ns ms from ⟨rfl, er.symm⟩)
  · have el : ns.length ≠ ms.length := fun z => by
      have : ((ns.length : Int) == (ms.length : Int)) = false := by simpa using e
      rw [z] at this
      simp at this
    have er : ltLen ns ms = decide ((ns.length : Int) < (ms.length : Int)) := by unfold ltLen; rw [if_neg el]; simp
    exact PySem.W.kat_no (oneLt_int ⟨rfl, er.symm⟩)
/-! ### the sort -/
theorem key_kind {A : Around} {E : Value → Shared → Prop} {ks : List Value} {rs : List (List Int)} {Q : SortKind → Shared → Prop} (I : Inv X pins σ H s) (hk : Paired (fun v ns => KeyH X.K H v ns) ks rs) (h0 : 0 < ks.length) (q : Q (tuples' true) s) :
    wpAny (model X.prog X.w) A (keyKind' ks.toArray) Q E s := by
  have fs : ∃ fs : List Value, PySem.W.KatTups s.heap ks fs ∧ fs.length = ks.length ∧ ∀ f ∈ fs, ∃ x t, f = Value.int x t := by
    clear h0 q
    induction hk with
    | nil => exact ⟨[], .nil, rfl, fun f h => nomatch h⟩
    | cons h _ ih =>
      obtain ⟨fs, f1, f2, f3⟩ := ih
      obtain ⟨a, t, rfl, ha, ht⟩ := h
      obtain ⟨_, its, r1, o1, e1, c1, n1, d1⟩ := I.hok a _ ha
      obtain ⟨u1, u2, rfl, q1, q2⟩ := r1.two
      obtain ⟨k1, rfl⟩ := q1
      refine ⟨_ :: fs, .cons e1 c1 d1 rfl f1, by simp [f2], fun f hf => ?_⟩
      rcases List.mem_cons.mp hf with rfl | hf
      · exact ⟨_, _, rfl⟩
      · exact f3 f hf
  obtain ⟨fs, f1, f2, f3⟩ := fs
  refine PySem.W.kat_kind (T := .type "int") f1 (by omega) (fun f hm => ?_) (by rfl) ?_
  · obtain ⟨x, t, rfl⟩ := f3 f hm
    exact PySem.W.Looks.now
  · have e : (Value.type "int" != Value.type "tuple") = true := by decide +kernel
    rw [e]
    exact q
theorem ints_one : ∀ {us : List Value} {ns ms : List Int}, Vals (ns.map V.int) us → Vals (ms.map V.int) us → ns = ms
  | [], [], [], _, _ => rfl
  | [], [], _ :: _, _, h => by cases h
  | [], _ :: _, _, h, _ => by cases h
  | _ :: _, [], _, h, _ => by cases h
  | _ :: _, _ :: _, [], _, h => by cases h
  | u :: us, n :: ns, m :: ms, h1, h2 => by
    cases h1 with
    | cons r1 t1 =>
      cases h2 with
      | cons r2 t2 =>
        obtain ⟨k1, rfl⟩ := r1
        obtain ⟨k2, e⟩ := r2
        cases e
        rw [ints_one t1 t2]
theorem sq_one {t : Addr} {ns ms : List Int} (I : Inv X pins σ H s) (h1 : SqT X.K H t (ns.map V.int)) (h2 : SqT X.K H t (ms.map V.int)) : ns = ms := by
  obtain ⟨i1, v1, ⟨o1, e1, c1, n1, d1⟩, _⟩ := I.tuple h1
  obtain ⟨i2, v2, ⟨o2, e2, c2, n2, d2⟩, _⟩ := I.tuple h2
  rw [e1] at e2
  cases e2
  rw [d1] at d2
  have e3 : i1.toArray = i2.toArray := (Data.seq.inj d2).1
  have e4 : i1 = i2 := by simpa using e3
  subst e4
  exact ints_one v1 v2
/-- what stands untracked is tracked from now on -/
theorem adopt {a : Addr} {o : HO} (I : Inv X pins σ H s) (f : FpOk X pins H a) (new : ObjOk X.prog X.w (upd H a o) s.heap a o) : Inv X pins σ (upd H a o) s := by
  obtain ⟨f0, f1, f2, f3, f4, f5⟩ := f
  have at_ : ∀ b u, H b = some u → upd H a o b = some u := fun b u e => by rw [upd_ne (ne_of_none e f0)]; exact e
  have z := I.step (H' := upd H a o) (h' := s.heap) (g' := s.gens) (d' := s.drawn) (t' := s.toks) (ch := [a]) (fun b hb => by rw [List.mem_singleton.mp hb]; exact ⟨f3, f1, f4, f5⟩) (fun b o' _ _ _ e _ => e) (fun b o' _ _ _ e _ => ⟨o'.slots, e⟩)
    (fun b o' hb _ n => by rw [upd_ne fun z => hb (List.mem_singleton.mpr z)]; exact n) (fun b o' _ e => ⟨o', e⟩) (fun b xs e => at_ b _ e) (fun b o' u e => at_ b _ e) (fun b ps e => ⟨#[], by rw [at_ b _ e]; simp⟩) (fun m h => h) (fun b u e => ?_) I.bare
  · exact z
  · by_cases hb : b = a
    · subst hb; rw [upd_same] at e; cases e; exact new
    · rw [upd_ne hb] at e
      exact (I.hok b u e).stay (fun c v _ q => q) (fun c q => at_ c _ q) fun c xs q => at_ c _ q
/-- a thing of ours that nobody tracks is changed -/
theorem chU {a : Addr} {g : Obj → Obj} {o : Obj} (I : Inv X pins σ H s) (f : FpOk X pins H a) : Inv X pins σ H { s with heap := s.heap.update a g } := by
  obtain ⟨f0, f1, f2, f3, f4, f5⟩ := f
  exact I.turned (t' := s.toks) (fun b o hb e => (Heap.get?_update_ne _ _ _ _ hb).trans e) f0 f1 f3 f4 f5
/-- the key of an item -/
structure KC (X : Cx) (A : Around) (fv : Value) (pf : Addr × Obj) (c' : Addr) (co : HO) : Prop where
  run : ∀ (pins : List (Addr × Obj)) (σ : L2.St) (H : Hp) (s : Shared) (t : Addr) (ns : List Int), pf ∈ pins → H c' = some co → Inv X pins σ H s → SqT X.K H t (ns.map V.int) →
    wpAny (model X.prog X.w) A (call fv [.ref t]) (fun u s' => ∃ p, u = .ref p ∧ H p = none ∧ Inv X pins σ (upd H p (.tup [.int ns.length, .ref t])) s') (fun _ _ => False) s
def ItH (K : PySem.W.Frag) (H : Hp) (Z : Addr → List Int → Prop) (v : Value) (ns : List Int) : Prop := ∃ t, v = .ref t ∧ SqT K H t (ns.map V.int) ∧ Z t ns
variable {Z : Addr → List Int → Prop}
def PrH (K : PySem.W.Frag) (H : Hp) (Z : Addr → List Int → Prop) (p : Value × Value) (ns : List Int) : Prop := ∃ a t, p.1 = .ref a ∧ p.2 = .ref t ∧ H a = some (.tup [.int ns.length, .ref t]) ∧ SqT K H t (ns.map V.int) ∧ Z t ns
theorem PrH.key {K : PySem.W.Frag} {p : Value × Value} {ns : List Int} (h : PrH K H Z p ns) : KeyH K H p.1 ns := let ⟨a, t, e1, _, e3, e4, _⟩ := h; ⟨a, t, e1, e3, e4⟩
theorem PrH.it {K : PySem.W.Frag} {p : Value × Value} {ns : List Int} (h : PrH K H Z p ns) : ItH K H Z p.2 ns := let ⟨a, t, _, e2, _, e4⟩ := h; ⟨t, e2, e4⟩
theorem sqT_same {K : PySem.W.Frag} {H' : Hp} {t : Addr} {xs : List V} (s : Same H H') (h : SqT K H t xs) : SqT K H' t xs := by
  rcases h with h | h
  · rcases h with h | ⟨o, h⟩
    · exact .inl (.inl (s _ _ h))
    · exact .inl (.inr ⟨o, s _ _ h⟩)
  · exact .inr h
theorem PrH.same {K : PySem.W.Frag} {H' : Hp} {p : Value × Value} {ns : List Int} (s : Same H H') (h : PrH K H Z p ns) : PrH K H' Z p ns := let ⟨a, t, e1, e2, e3, e4, z⟩ := h; ⟨a, t, e1, e2, s _ _ e3, sqT_same s e4, z⟩
theorem ItH.same {K : PySem.W.Frag} {H' : Hp} {v : Value} {ns : List Int} (s : Same H H') (h : ItH K H Z v ns) : ItH K H' Z v ns := let ⟨t, e1, e2, z⟩ := h; ⟨t, e1, sqT_same s e2, z⟩
open Classical in
noncomputable def kfn (K : PySem.W.Frag) (H : Hp) (v : Value) : List Int := if h : ∃ ns, KeyH K H v ns then Classical.choose h else []
theorem kfn_key {K : PySem.W.Frag} {v : Value} {ns : List Int} (h : KeyH K H v ns) : KeyH K H v (kfn K H v) := by
  unfold kfn
  rw [dif_pos ⟨ns, h⟩]
  exact Classical.choose_spec (⟨ns, h⟩ : ∃ ns, KeyH K H v ns)
theorem kfn_one {v : Value} {ns : List Int} (I : Inv X pins σ H s) (h : KeyH X.K H v ns) : kfn X.K H v = ns := by
  obtain ⟨a, t, e1, e2, e3⟩ := kfn_key h
  obtain ⟨b, t', f1, f2, f3⟩ := h
  rw [e1] at f1
  cases f1
  rw [e2] at f2
  have e4 : t = t' := by
    have z := HO.tup.inj (Option.some.inj f2)
    injection z with _ z
    injection z with z _
    exact V.ref.inj z
  subst e4
  exact sq_one I e3 f3
/-- pairs of keys and items, and the ints -/
def AllP (K : PySem.W.Frag) (H : Hp) (Z : Addr → List Int → Prop) (ps : List (Value × Value)) (rs : List (List Int)) : Prop := Paired (fun p ns => PrH K H Z p ns) ps rs
theorem allP_map (I : Inv X pins σ H s) : ∀ {ps : List (Value × Value)} {rs : List (List Int)}, AllP X.K H Z ps rs → ps.map (fun p => kfn X.K H p.1) = rs
  | _, _, .nil => rfl
  | _, _, .cons h t => by rw [List.map_cons, kfn_one I h.key, allP_map I t]
theorem allP_of (I : Inv X pins σ H s) : ∀ {ps : List (Value × Value)}, (∀ p ∈ ps, PrH X.K H Z p (kfn X.K H p.1)) → AllP X.K H Z ps (ps.map fun p => kfn X.K H p.1)
  | [], _ => .nil
  | p :: ps, h => .cons (h p List.mem_cons_self) (allP_of I fun q hq => h q (List.mem_cons_of_mem _ hq))
theorem allP_mem (I : Inv X pins σ H s) : ∀ {ps : List (Value × Value)} {rs : List (List Int)}, AllP X.K H Z ps rs → ∀ p ∈ ps, PrH X.K H Z p (kfn X.K H p.1)
  | _, _, .cons h t, p, hp => by
    rcases List.mem_cons.mp hp with rfl | hp
    · rw [kfn_one I h.key]; exact h
    · exact allP_mem I t p hp
theorem sort_end {A : Around} {E : Value → Shared → Prop} {a kS : Addr} {ps : List (Value × Value)} {rs : List (List Int)} {e e1 : Nat} {P : PySem.Fin → Shared → Prop} (hu : A.units + 65 < cLine) (I : Inv X pins σ H s) (hz : ps.length ≤ 1000000) (fa : FpOk X pins H a) (fk : FpOk X pins H kS) (hne : kS ≠ a)
    (ha : s.heap.get? a = some (seqObj "list" #[] e1)) (hk : s.heap.get? kS = some (seqObj "list" (ps.map (·.1)).toArray e)) (hp : AllP X.K H Z ps rs)
    (q : ∀ s' out rs' c, Inv X pins σ H s' → s'.heap.get? a = some (seqObj "list" out.toArray c) → Paired (fun v ns => ItH X.K H Z v ns) out rs' → rs'.Perm rs → rs'.Pairwise (fun x y => ltLen y x = false) → P (.done (.ret .none)) s') :
    wpAny (model X.prog X.w) A (ksk_end a false (ps.map (·.2)).toArray e1 (.ref kS) (ps.map (·.1)).toArray) P E s := by
  have hzip : (ps.map (·.1)).toArray.zip (ps.map (·.2)).toArray = ps.toArray := by
    apply Array.toList_inj.mp
    rw [Array.toList_zip]
    simp only [List.toList_toArray]
    clear hp hk hz q
    induction ps with
    | nil => rfl
    | cons p ps ih => simp only [List.map_cons, List.zip_cons_cons, ih]
  have fin : ∀ st : SortSt, SrtO.Srtd (fun x y : Value × Value => ltLen (kfn X.K H x.1) (kfn X.K H y.1)) (arrOf st).toList → (arrOf st).toList.Perm ps → failedOf st = none → wpAny (model X.prog X.w) A (ksk_tail a false e1 (.ref kS) st) P E s := fun st hs hpm hf => by
    have hlen : (arrOf st).size = ps.length := by have := hpm.length_eq; rw [Array.length_toList] at this; exact this
    unfold ksk_tail
    try dsimp only
    refine wpAny_bind (listUpdate_at hk rfl ?_ (by rw [List.size_toArray, List.length_map]; exact line_mil hz) (Nat.zero_le _))
    refine wpAny_bind (wpAny_letGo ?_)
    have ha1 : (s.heap.update kS (Obj.mapSeq fun _ => (#[] : Array Value))).get? a = some (seqObj "list" #[] e1) := (Heap.get?_update_ne _ _ _ _ (Ne.symm hne)).trans ha
    refine wpAny_bind (seqEpoch_at ha1 rfl ?_)
    refine wpAny_bind (listUpdate_at ha1 rfl ?_ (Nat.zero_le _) (by rw [if_neg Bool.false_ne_true, Array.size_map, hlen]; have := line_mil hz; omega))
    rw [hf]
    simp only [bne_self_eq_false, Bool.false_eq_true, if_false]
    obtain ⟨c2, hc2⟩ : ∃ c2, ((s.heap.update kS (Obj.mapSeq fun _ => (#[] : Array Value))).update a (Obj.mapSeq fun _ => (arrOf st).map (·.2))).get? a = some (seqObj "list" ((arrOf st).map (·.2)) c2) := ⟨_, get?_update_seq ha1 _⟩
    have I2 : Inv X pins σ H { s with heap := s.heap.update kS (Obj.mapSeq fun _ => (#[] : Array Value)) } := chU (o := default) I fk
    have I3 := chU (g := Obj.mapSeq fun _ => (arrOf st).map (·.2)) (o := default) I2 fa
    have hall := allP_mem I hp
    have ho : AllP X.K H Z (arrOf st).toList ((arrOf st).toList.map fun p => kfn X.K H p.1) := allP_of I fun p hp' => hall p (hpm.mem_iff.mp hp')
    have hit : ∀ {l : List (Value × Value)} {r : List (List Int)}, AllP X.K H Z l r → Paired (fun v ns => ItH X.K H Z v ns) (l.map (·.2)) r := fun {l r} h => by
      induction h with
      | nil => exact .nil
      | cons h _ ih => exact .cons h.it ih
    refine wpAny_pure (q _ ((arrOf st).toList.map (·.2)) _ c2 I3 ?_ (hit ho) ?_ ?_)
    · have : ((arrOf st).toList.map (·.2)).toArray = (arrOf st).map (·.2) := by apply Array.toList_inj.mp; simp
      rw [this]
      exact hc2
    · have e2 := hpm.map (fun p => kfn X.K H p.1)
      rw [allP_map I hp] at e2
      exact e2
    · exact List.pairwise_map.mpr (hs.imp fun h => h)
  unfold ksk_end
  try dsimp only
  simp only [Bool.false_eq_true, if_false]
  rw [hzip]
  by_cases h2 : (ps.map (·.2)).toArray.size < 2
  · rw [if_pos h2, if_pos h2]
    refine wpAny_bind (wpAny_pure ?_)
    rw [StateT.run_pure]
    refine wpAny_bind (wpAny_pure ?_)
    try dsimp only
    refine fin (SortSt.mk' general' ps.toArray #[] 7 none) ?_ ?_ rfl
    · rw [List.size_toArray, List.length_map] at h2
      show SrtO.Srtd _ ps.toArray.toList
      rw [List.toList_toArray]
      match ps, h2 with
      | [], _ => exact List.Pairwise.nil
      | [p], _ => exact List.pairwise_singleton _ _
    · show ps.toArray.toList.Perm ps
      rw [List.toList_toArray]
  · rw [if_neg h2, if_neg h2]
    rw [List.size_toArray, List.length_map] at h2
    have hks : ∀ {l : List (Value × Value)} {r : List (List Int)}, AllP X.K H Z l r → Paired (fun v ns => KeyH X.K H v ns) (l.map (·.1)) r := fun {l r} h => by
      induction h with
      | nil => exact .nil
      | cons h _ ih => exact .cons h.key ih
    refine wpAny_bind (key_kind I (hks hp) (by rw [List.length_map]; omega) ?_)
    have hall := allP_mem I hp
    have hC : SrtO.Cmp X.prog X.w A s (tuples' true) (fun p => p ∈ ps) (fun x y : Value × Value => ltLen (kfn X.K H x.1) (kfn X.K H y.1)) := fun p p' m m' => key_lt hu I (hall p m).key (hall p' m').key
    refine wpAny_bind (wpAny_mono (SrtO.wpS_sortO (st0 := SortSt.mk' (tuples' true) ps.toArray #[] 7 none)
      (Q := fun _ st' => SrtO.Srtd (fun x y : Value × Value => ltLen (kfn X.K H x.1) (kfn X.K H y.1)) (arrOf st').toList ∧ (arrOf st').toList.Perm ps ∧ failedOf st' = none) (ltLen_swo fun p : Value × Value => kfn X.K H p.1) hC rfl (fun p m => by simpa using m) rfl rfl fun st' a1 a2 a3 => ⟨a1, by have := a2.perm; simpa using this, a3⟩) ?_ fun _ _ e => e)
    rintro ⟨⟨⟩, st'⟩ s' ⟨rfl, hs, hpm, hf⟩
    try dsimp only
    exact fin st' hs hpm hf
theorem pr_snoc {α β : Type} {r : α → β → Prop} {a : α} {b : β} (h : r a b) : ∀ {l : List α} {m : List β}, Paired r l m → Paired r (l ++ [a]) (m ++ [b])
  | _, _, .nil => .cons h .nil
  | _, _, .cons x t => .cons x (pr_snoc h t)
theorem pr_imp {α β : Type} {r r' : α → β → Prop} (h : ∀ a b, r a b → r' a b) : ∀ {l : List α} {m : List β}, Paired r l m → Paired r' l m
  | _, _, .nil => .nil
  | _, _, .cons x t => .cons (h _ _ x) (pr_imp h t)
theorem pr_get {α β : Type} {r : α → β → Prop} : ∀ {l : List α} {m : List β} {i : Nat} {a : α}, Paired r l m → l[i]? = some a → ∃ b, m[i]? = some b ∧ r a b
  | _, _, _, _, .nil, e => by simp at e
  | _, _, 0, _, .cons x t, e => by simp at e; subst e; exact ⟨_, rfl, x⟩
  | _, _, i + 1, _, .cons x t, e => by
    obtain ⟨b, h1, h2⟩ := pr_get (i := i) t (by simpa using e)
    exact ⟨b, by simpa using h1, h2⟩
theorem fp_at {pins : List (Addr × Obj)} {H H' : Hp} {b : Addr} (f : FpOk X pins H b) (h : H' b = none) : FpOk X pins H' b := ⟨h, f.2⟩
theorem sort_rest {A : Around} {E : Value → Shared → Prop} {fv : Value} {pf : Addr × Obj} {c' : Addr} {co : HO} {a kS : Addr} {vs : List Value} {rs : List (List Int)} {e1 : Nat} {P : PySem.Fin → Shared → Prop} (hu : A.units + 65 < cLine) (kc : KC X A fv pf c' co) (I : Inv X pins σ H s) (hpf : pf ∈ pins) (hco : H c' = some co)
    (hz : vs.length ≤ 1000000) (fa : FpOk X pins H a) (fk : FpOk X pins H kS) (hne : kS ≠ a) (ha : s.heap.get? a = some (seqObj "list" #[] e1)) (hk : s.heap.get? kS = some (seqObj "list" #[] 0)) (hv : Paired (fun v ns => ItH X.K H Z v ns) vs rs)
    (q : ∀ H' s' out rs' c, Inv X pins σ H' s' → Same H H' → FpOk X pins H' a → s'.heap.get? a = some (seqObj "list" out.toArray c) → Paired (fun v ns => ItH X.K H' Z v ns) out rs' → rs'.Perm rs → rs'.Pairwise (fun x y => ltLen y x = false) → P (.done (.ret .none)) s') :
    wpAny (model X.prog X.w) A (ksk_rest a fv false vs.toArray e1 (.ref kS)) P E s := by
  unfold ksk_rest
  refine wpAny_bind (wpAny_rule ?_)
  first
    | rw [List.forIn_toArray]
    | (rw [← Array.forIn_toList]; simp only [List.toList_toArray])
  refine wpAny_bind (ksk_fold (fun i s' => ∃ H' ps e, Inv X pins σ H' s' ∧ Same H H' ∧ FpOk X pins H' a ∧ FpOk X pins H' kS ∧ s'.heap.get? a = some (seqObj "list" #[] e1) ∧ s'.heap.get? kS = some (seqObj "list" (ps.map (·.1)).toArray e) ∧ ps.map (·.2) = vs.take i ∧ AllP X.K H' Z ps (rs.take i)) vs 0 s
    ⟨H, [], 0, I, Same.refl H, fa, fk, ha, hk, rfl, by rw [List.take_zero]; exact .nil⟩ ?step ?done)
  case step =>
    rintro j x s1 hx ⟨H1, ps, e, I1, s01, fa1, fk1, ha1, hk1, hps, hp1⟩
    simp only [Nat.zero_add] at hps hp1 ⊢
    obtain ⟨ns, hns, t, rfl, ht, hZ⟩ := pr_get hv hx
    have hj : j < vs.length := (List.getElem?_eq_some_iff.mp hx).1
    have fps : ∀ b ∈ [a, kS], FpOk X pins H1 b := fun b hb => by
      rcases List.mem_cons.mp hb with rfl | hb
      · exact fa1
      · rw [List.mem_singleton.mp hb]; exact fk1
    have I1' := I1.pinned fps (fun b hb => by
      rcases List.mem_cons.mp hb with rfl | hb
      · exact ⟨_, ha1, fun v z => nomatch z⟩
      · rw [List.mem_singleton.mp hb]; exact ⟨_, hk1, fun v z => nomatch z⟩)
    refine wpAny_bind (wpAny_attempt (wpAny_mono (kc.run _ σ H1 s1 t ns (List.mem_append_left _ hpf) (s01 _ _ hco) I1' (sqT_same s01 ht)) (fun u s2 h2 => ?_) fun _ _ z => z.elim))
    obtain ⟨p, rfl, hp, I2⟩ := h2
    have pa := I2.pin (a, _) (List.mem_append_right _ (List.mem_append_right _ (mem_pinsAt (by simp) ha1)))
    have pk := I2.pin (kS, _) (List.mem_append_right _ (List.mem_append_right _ (mem_pinsAt (by simp) hk1)))
    have I3 := I2.unpinned
    have s12 : Same H1 (upd H1 p (.tup [.int ns.length, .ref t])) := same_upd0 hp
    have fa3 := fp_at fa1 pa.2.1
    have fk3 := fp_at fk1 pk.2.1
    have hlen : ps.length = j := by
      have := congrArg List.length hps
      rw [List.length_map, List.length_take] at this
      omega
    try dsimp only
    refine wpAny_bind (listUpdate_at pk.1 rfl ?_ (by rw [List.size_toArray, List.length_map]; exact line_mil (by omega)) (by rw [Array.size_push, List.size_toArray, List.length_map]; have := line_mil hz; omega))
    obtain ⟨c2, hc2⟩ : ∃ c2, (s2.heap.update kS (Obj.mapSeq (·.push (.ref p)))).get? kS = some (seqObj "list" ((ps.map (·.1)).toArray.push (.ref p)) c2) := ⟨_, get?_update_seq pk.1 (·.push (.ref p))⟩
    refine wpAny_pure ⟨rfl, _, ps ++ [(.ref p, .ref t)], c2, chU (o := default) I3 fk3, s01.trans s12, fa3, fk3, (Heap.get?_update_ne _ _ _ _ (Ne.symm hne)).trans pa.1, ?_, ?_, ?_⟩
    · rw [hc2]
      simp
    · rw [List.map_append, hps, List.take_add_one, hx]
      rfl
    · rw [List.take_add_one, hns]
      exact pr_snoc ⟨p, t, rfl, rfl, upd_same, sqT_same (s01.trans s12) ht, hZ⟩ (pr_imp (fun _ _ h => PrH.same s12 h) hp1)
  case done =>
    rintro s1 ⟨H1, ps, e, I1, s01, fa1, fk1, ha1, hk1, hps, hp1⟩
    simp only [Nat.zero_add] at hps hp1
    rw [List.take_of_length_le (Nat.le_refl _)] at hps
    have hl : vs.length = rs.length := Paired.length hv
    rw [List.take_of_length_le (by omega)] at hp1
    try dsimp only
    refine wpAny_bind (listItems_at hk1 rfl ?_)
    rw [← hps]
    refine sort_end hu I1 (by have := congrArg List.length hps; rw [List.length_map] at this; omega) fa1 fk1 hne ha1 hk1 hp1 fun s' out rs' c I' h1 h2 h3 h4 => ?_
    exact q H1 s' out rs' c I' s01 fa1 h1 h2 h3 h4
theorem sort_tree {A : Around} {E : Value → Shared → Prop} {fv : Value} {pf : Addr × Obj} {c' : Addr} {co : HO} {a : Addr} {vs : List Value} {rs : List (List Int)} {n : Nat} {P : PySem.Fin → Shared → Prop} (hu : A.units + 65 < cLine) (kc : KC X A fv pf c' co) (I : Inv X pins σ H s) (hpf : pf ∈ pins) (hco : H c' = some co)
    (hz : vs.length ≤ 1000000) (fa : FpOk X pins H a) (ha : s.heap.get? a = some (seqObj "list" vs.toArray n)) (hv : Paired (fun v ns => ItH X.K H Z v ns) vs rs)
    (q : ∀ H' s' out rs' c, Inv X pins σ H' s' → Same H H' → FpOk X pins H' a → s'.heap.get? a = some (seqObj "list" out.toArray c) → Paired (fun v ns => ItH X.K H' Z v ns) out rs' → rs'.Perm rs → rs'.Pairwise (fun x y => ltLen y x = false) → P (.done (.ret .none)) s') :
    wpAny (model X.prog X.w) A (ksk_tree a fv false) P E s := by
  unfold ksk_tree
  refine wpAny_bind (listItems_at ha rfl ?_)
  refine wpAny_bind (listUpdate_at ha rfl ?_ (by rw [List.size_toArray]; exact line_mil hz) (Nat.zero_le _))
  obtain ⟨e1, ha1⟩ : ∃ e1, (s.heap.update a (Obj.mapSeq fun _ => (#[] : Array Value))).get? a = some (seqObj "list" #[] e1) := ⟨_, get?_update_seq ha fun _ => #[]⟩
  have I1 : Inv X pins σ H { s with heap := s.heap.update a (Obj.mapSeq fun _ => (#[] : Array Value)) } := chU (o := default) I fa
  refine wpAny_bind (seqEpoch_at ha1 rfl ?_)
  refine wpAny_bind (wpAny_newTuple ?_ (by show vs.length ≤ _; exact line_mil hz))
  have I2 : Inv X pins σ H { s with heap := (s.heap.update a (Obj.mapSeq fun _ => (#[] : Array Value))).push (seqObj "tuple" vs.toArray 0) } := I1.kept (t' := s.toks) fun b o e => Heap.get?_push_of_some _ e
  refine wpAny_bind (wpAny_newList ?_ (Nat.zero_le _))
  refine wpAny_holding ?_
  have fk := I2.fpOk (H' := H) (Nat.le_refl _) I2.fresh
  have I3 : Inv X pins σ H { s with heap := ((s.heap.update a (Obj.mapSeq fun _ => (#[] : Array Value))).push (seqObj "tuple" vs.toArray 0)).push (seqObj "list" #[] 0) } := I2.kept (t' := s.toks) fun b o e => Heap.get?_push_of_some _ e
  have ha2 := Heap.get?_push_of_some (seqObj "tuple" vs.toArray 0) ha1
  exact sort_rest hu kc I3 hpf hco hz fa fk (Nat.ne_of_gt (Heap.lt_size ha2)) (Heap.get?_push_of_some _ ha2) (Heap.get?_push_size _ rfl) hv q
/-- sorted(l, key=f) -/
theorem sorted_key {E : Value → Shared → Prop} {f : Addr} {pf : Addr × Obj} {c' : Addr} {co : HO} {l : Addr} {xs : List V} {rs : List (List Int)} {Q : VK} (hu : X.A.units + 70 < cLine) (kc : KC X X.A.in1.in1 (.ref f) pf c' co) (I : Inv X pins σ H s) (hpf : pf ∈ pins) (hco : H c' = some co)
    (hl : SqL X.K H l xs) (hz : xs.length ≤ 1000000) (hv : Paired (fun v ns => ∃ t, v = V.ref t ∧ SqT X.K H t (ns.map V.int) ∧ Z t ns) xs rs)
    (q : ∀ H' p ys rs', Same H H' → H' p = none → Paired (fun v ns => ∃ t, v = V.ref t ∧ SqT X.K H' t (ns.map V.int) ∧ Z t ns) ys rs' → rs'.Perm rs → rs'.Pairwise (fun x y => ltLen y x = false) → Q (.ref p) (upd H' p (.lst ys))) :
    wpAny (model X.prog X.w) X.A (call (.builtin "sorted") [.ref l] [(Str.ofString "key", .ref f)]) (EP X pins σ Q) E s := by
  obtain ⟨its, rv, pl, hz2⟩ := I.list hl
  have hzl : its.length ≤ 1000000 := by rw [← rv.length]; exact hz
  have hv2 : Paired (fun v ns => ItH X.K H Z v ns) its rs := by
    clear pl hzl q hl hz hz2
    induction rv generalizing rs with
    | nil => cases hv; exact .nil
    | cons r _ ih =>
      cases hv with
      | cons h t =>
        obtain ⟨t', rfl, ht⟩ := h
        exact .cons ⟨t', r, ht⟩ (ih t)
  refine call_function_entry_kw kind_sorted plain_sorted entry_sorted (ksk_s1 _ _) ?_
  unfold Builtin.«sorted»
  refine wpAny_bind (m := checkCount "sorted" 1 1 _) (wpAny_pure ?_)
  refine wpAny_bind (collect_list pl.isList ?_ (line_mil hzl))
  refine wpAny_bind (wpAny_newList ?_ (line_mil hzl))
  have hsz : ((s.heap.push (seqObj "list" #[] 0)).update s.heap.objs.size (Obj.mapSeq (· ++ its.toArray))).objs.size = s.heap.objs.size + 1 := by rw [Heap.size_update, size_push']
  have k1 : ∀ b o, s.heap.get? b = some o → ((s.heap.push (seqObj "list" #[] 0)).update s.heap.objs.size (Obj.mapSeq (· ++ its.toArray))).get? b = some o := fun b o e => by
    rw [Heap.get?_update_ne _ _ _ _ (Nat.ne_of_lt (Heap.lt_size e))]
    exact Heap.get?_push_of_some _ e
  have I1 : Inv X pins σ H { s with heap := (s.heap.push (seqObj "list" #[] 0)).update s.heap.objs.size (Obj.mapSeq (· ++ its.toArray)) } := I.kept (t' := s.toks) k1
  have fa := I1.fpOk (H' := H) (Nat.le_refl _) I1.fresh
  have I2 : Inv X pins σ H { s with heap := ((s.heap.push (seqObj "list" #[] 0)).update s.heap.objs.size (Obj.mapSeq (· ++ its.toArray))).push (seqObj "list" its.toArray 0) } := I1.kept (t' := s.toks) fun b o e => Heap.get?_push_of_some _ e
  have hoL : (((s.heap.push (seqObj "list" #[] 0)).update s.heap.objs.size (Obj.mapSeq (· ++ its.toArray))).push (seqObj "list" its.toArray 0)).get? ((s.heap.push (seqObj "list" #[] 0)).update s.heap.objs.size (Obj.mapSeq (· ++ its.toArray))).objs.size = some (seqObj "list" its.toArray 0) := Heap.get?_push_size _ rfl
  refine wpAny_bind (wpAny_holding (wpAny_call_entry_kw slot_list_sort ⟨_, hoL, rfl⟩ entry_list_sort ?body (ksk_l1 _ _)))
  case body =>
    rw [ksk_t1]
    refine sort_tree (by show X.A.units + 1 + 1 + 65 < _; omega) kc I2 hpf hco hzl fa hoL hv2 fun H' s' out rs' c I' sm fa' h1 h2 h3 h4 => ⟨_, rfl, ?_⟩
    obtain ⟨ys, r1, r2⟩ : ∃ ys, Vals ys out ∧ Paired (fun v ns => ∃ t, v = V.ref t ∧ SqT X.K H' t (ns.map V.int) ∧ Z t ns) ys rs' := by
      clear h1 h3 h4
      induction h2 with
      | nil => exact ⟨[], .nil, .nil⟩
      | cons h _ ih =>
        obtain ⟨ys, r1, r2⟩ := ih
        obtain ⟨t, rfl, ht⟩ := h
        exact ⟨.ref t :: ys, .cons rfl r1, .cons ⟨t, rfl, ht⟩ r2⟩
    have hl3 : ys.length ≤ sizeLine := by
      have e1 : ys.length = rs'.length := Paired.length r2
      have e2 : its.length = rs.length := Paired.length hv2
      rw [e1, h3.length_eq, ← e2]
      exact line_mil hzl
    exact wpAny_pure ⟨_, rfl, .ref _, _, adopt (o := .lst ys) I' fa' ⟨hl3, out, c, r1, h1⟩, rfl, q H' _ ys rs' sm fa'.1 r2 h3 h4⟩
end
/-- what the text must say of the lambda, for the def that holds it -/
structure LamOk (E : En) (X : Cx) : Prop where
  ex : ∃ c P, LamX.TabB X.base X.mg c P ∧ X.env.code = .ref c ∧ (P, X.env.qual ++ "<lambda>") ∈ E.T ∧ ∀ p ∈ E.T, p.1 = P → p.2 = X.env.qual ++ "<lambda>"
def lamP (n : Str) (pp : Pos) : Arguments := ⟨[], [⟨n, none, pp⟩], none, [], [], none, []⟩
section
variable {E : En} {W : WX} {X : Cx} {a : Expr} {x : Ex} {pos : Pos}
theorem free_names {sc : List (Str × NameKind)} (h : ∀ y ∈ sc, y.2 ≠ .free) (cells : List (Str × Addr)) : cloFrom cells sc [] = [] := by
  have g : ∀ (sc : List (Str × NameKind)) (acc : List (Str × Addr)), (∀ y ∈ sc, y.2 ≠ .free) → cloFrom cells sc acc = acc := fun sc => by
    induction sc with
    | nil => intro acc _; rfl
    | cons y sc ih =>
      intro acc h
      obtain ⟨n, k⟩ := y
      unfold cloFrom
      rw [if_neg (by simpa using h (n, k) List.mem_cons_self)]
      exact ih acc fun z hz => h z (List.mem_cons_of_mem _ hz)
  exact g sc [] h
/-- a lambda without captured names is made: a new function object, unknown to H, and its code object -/
theorem lam_mk {c PT : Addr} {params : Arguments} {body : Expr} {scope : Scope} {lpos : Pos} {XE : Value → Shared → Prop} {Q : Value → Shared → Prop} {pins : List (Addr × Obj)} {σ : L2.St} {H : Hp} {s : Shared} (I : Inv X pins σ H s) (TB : LamX.TabB X.base X.mg c PT) (hcode : X.env.code = .ref c)
    (hm : (PT, X.env.qual ++ "<lambda>") ∈ E.T) (hu : ∀ p ∈ E.T, p.1 = PT → p.2 = X.env.qual ++ "<lambda>") (hT : LamX.Tabs E.T H) (hdef : defaultsOf params X.env = ([], [])) (hfr : ∀ y ∈ scope.names, y.2 ≠ .free)
    (h : ∀ (f c' : Addr) (pm ctv : Value) (H1 : Hp) (s' : Shared), Inv X pins σ H1 s' → Sm E H H1 → s'.heap.get? f = some (PySem.W.kla_obj "<lambda>" (X.env.qual ++ "<lambda>") params body scope [] pm c' ctv) → H1 f = none → s.heap.objs.size ≤ f → H1 c' = some (LamX.CodeO c' (X.env.qual ++ "<lambda>")) → Q (.ref f) s') :
    wpAny (model X.prog X.w) X.A (eval (.Lambda params body scope lpos) X.env) Q XE s := by
  obtain ⟨ps, hP, ht, hcs⟩ := hT _ hm
  have hcl : closureFor scope X.env = pure [] := by rw [closure_ok fun y hy e => absurd e (hfr y hy), free_names hfr]
  have gP : s.heap.get? PT = some { cls := .none, data := .fields ps } := I.hok PT _ hP
  have mgl := I.mod.glob.keeps I.bk
  refine PySem.W.kla_eval hdef ?_
  cases hc : codeAmong lpos ps.toList with
  | some cv =>
    obtain ⟨c', rfl, hco⟩ := hcs lpos cv hc
    refine PySem.W.kla_makeFunctionHit (mg := X.mg) hcl I.ok.glob mgl hcode (TB.code.keeps I.bk) gP ht hc (TB.bm.keeps I.bk) fun ctv h' tk hx hsz => ?_
    refine h h'.objs.size c' _ ctv H _ (I.kept fun b o e => Heap.get?_push_of_some _ (hx b o e)) (Sm.refl H) (Heap.get?_push_size _ rfl) ?_ hsz hco
    exact I.hok.fresh hsz
  | none =>
    refine PySem.W.kla_makeFunction (mg := X.mg) hcl I.ok.glob mgl hcode (TB.code.keeps I.bk) gP ht hc TB.gP (TB.bm.keeps I.bk) fun c' ctv h' tk hx hge hlt hrec htb => ?_
    obtain ⟨c2, oc, vs, t, e2, hoc, hd, hv⟩ := hrec
    cases e2
    have hsz : s.heap.objs.size ≤ h'.objs.size := Nat.le_trans hge (Nat.le_of_lt hlt)
    have nC : H c' = none := I.hok.fresh hge
    have nPC : PT ≠ c' := ne_of_none hP nC
    have J := LamX.inv_table (t' := tk) (q := X.env.qual ++ "<lambda>") (more := #[rawInt lpos.line, rawInt lpos.col, .ref c']) (h' := h'.push (PySem.W.kla_obj "<lambda>" (X.env.qual ++ "<lambda>") params body scope [] ((X.mg "__name__").getD .none) c' ctv)) I hP
      (fun b o hb e => Heap.get?_push_of_some _ (hx b o hb e)) (Heap.get?_push_of_some _ htb) hge ⟨oc, vs, t, Heap.get?_push_of_some _ hoc, hd, hv⟩
    have at_ : ∀ b, b ≠ PT → b ≠ c' → upd (upd H PT (.tbl (ps ++ #[rawInt lpos.line, rawInt lpos.col, .ref c']))) c' (LamX.CodeO c' (X.env.qual ++ "<lambda>")) b = H b := fun b z1 z2 => by rw [upd_ne z2, upd_ne z1]
    have got : ∀ b o, H b = some o → NT o → upd (upd H PT (.tbl (ps ++ #[rawInt lpos.line, rawInt lpos.col, .ref c']))) c' (LamX.CodeO c' (X.env.qual ++ "<lambda>")) b = some o := fun b o e nt => by
      rw [at_ b (fun z => by rw [z, hP] at e; cases e; exact nt _ rfl) (ne_of_none e nC)]
      exact e
    have tabs : LamX.Tabs E.T H → LamX.Tabs E.T (upd (upd H PT (.tbl (ps ++ #[rawInt lpos.line, rawInt lpos.col, .ref c']))) c' (LamX.CodeO c' (X.env.qual ++ "<lambda>"))) := fun _ p hp => by
      have eL : (ps ++ #[rawInt lpos.line, rawInt lpos.col, .ref c']).toList = ps.toList ++ [rawInt lpos.line, rawInt lpos.col, .ref c'] := by simp
      by_cases hb : p.1 = PT
      · rw [hu p hp hb, hb]
        refine ⟨_, by rw [upd_ne nPC, upd_same], by rw [eL]; exact PySem.TriplesOk_snoc _ _ _ _ ht, fun p' cv hcv => ?_⟩
        rw [eL] at hcv
        rcases LamX.among_app _ ht hcv with z | z
        · obtain ⟨c0, e1, e2⟩ := hcs p' cv z
          exact ⟨c0, e1, got _ _ e2 LamX.codeO_ne⟩
        · exact ⟨c', z, upd_same⟩
      · obtain ⟨ps', a1, a2, a3⟩ := hT p hp
        refine ⟨ps', by rw [at_ _ hb (ne_of_none a1 nC)]; exact a1, a2, fun p' cv hcv => ?_⟩
        obtain ⟨c0, e1, e2⟩ := a3 p' cv hcv
        exact ⟨c0, e1, got _ _ e2 LamX.codeO_ne⟩
    refine h h'.objs.size c' _ ctv _ _ J ⟨got, fun {b} e => ?_, fun _ _ t => tabs t⟩ (Heap.get?_push_size _ rfl) ?_ hsz upd_same
    · by_cases z2 : b = c'
      · rw [z2]; exact nC
      · by_cases z1 : b = PT
        · rw [z1, upd_ne nPC, upd_same] at e; cases e
        · rw [at_ b z1 z2] at e; exact e
    · have n1 : h'.objs.size ≠ c' := Nat.ne_of_gt hlt
      have n2 : h'.objs.size ≠ PT := Nat.ne_of_gt (Nat.lt_of_lt_of_le (Heap.lt_size gP) hsz)
      rw [at_ _ n2 n1]
      exact I.hok.fresh hsz
theorem rows_of {K : PySem.W.Frag} {cl : Nat → Addr} {P : Addr → Prop} {H : Hp} : ∀ {xs : List V} {ds : List D} {rs : List (List Int)}, Reps K cl P H xs ds → D.rows ds = some rs → Paired (fun v ns => ∃ t, v = V.ref t ∧ SqT K H t (ns.map V.int) ∧ TupAt K P H t (ns.map V.int)) xs rs
  | _, _, rs, .nil, e => by cases e; exact .nil
  | _, _, rs, .cons (d := .tup es) (ds := ds) a r, e => by
    unfold D.rows at e
    cases e1 : D.ints es with
    | none => rw [e1] at e; cases e
    | some ns =>
      cases e2 : D.rows ds with
      | none => rw [e1, e2] at e; cases e
      | some ms =>
        rw [e1, e2] at e
        cases e
        cases a with
        | tup t q =>
          rw [q.ints e1] at t
          exact .cons ⟨_, rfl, t.sq, t⟩ (rows_of r e2)
  | _, _, _, .cons (d := .non) a r, e => by cases e
  | _, _, _, .cons (d := .bl _) a r, e => by cases e
  | _, _, _, .cons (d := .int _) a r, e => by cases e
  | _, _, _, .cons (d := .str _) a r, e => by cases e
  | _, _, _, .cons (d := .lst _) a r, e => by cases e
  | _, _, _, .cons (d := .dic _ _) a r, e => by cases e
  | _, _, _, .cons (d := .ins _ _) a r, e => by cases e
theorem lex_an : ∀ {a b : List Int}, HT.lexLt a b = false → HT.lexLt b a = false → a = b
  | [], [], _, _ => rfl
  | [], _ :: _, h, _ => by cases h
  | _ :: _, [], _, h => by cases h
  | x :: a, y :: b, h1, h2 => by
    rw [HT.lexLt_cons] at h1 h2
    by_cases e : x = y
    · rw [if_pos e] at h1
      rw [if_pos e.symm] at h2
      rw [e, lex_an h1 h2]
    · rw [if_neg e] at h1
      rw [if_neg fun z => e z.symm] at h2
      simp only [decide_eq_false_iff_not] at h1 h2
      omega
theorem leLen_lt (a b : List Int) : leLen a b = !ltLen b a := by
  unfold leLen ltLen
  by_cases e : a.length = b.length
  · rw [if_pos e, if_pos e.symm]
  · rw [if_neg e, if_neg fun z => e z.symm]
    by_cases h : a.length < b.length
    · rw [decide_eq_true h, decide_eq_false (by omega)]; rfl
    · rw [decide_eq_false h, decide_eq_true (by omega)]; rfl
theorem leLen_an (a b : List Int) (h1 : leLen a b = true) (h2 : leLen b a = true) : a = b := by
  unfold leLen at h1 h2
  by_cases e : a.length = b.length
  · rw [if_pos e] at h1
    rw [if_pos e.symm] at h2
    exact lex_an (by simpa using h2) (by simpa using h1)
  · rw [if_neg e] at h1
    rw [if_neg fun z => e z.symm] at h2
    simp only [decide_eq_true_eq] at h1 h2
    omega
theorem leLen_tr (a b c : List Int) (h1 : leLen a b = true) (h2 : leLen b c = true) : leLen a c = true := by
  have O := ltLen_swo (fun x : List Int => x)
  rw [leLen_lt] at h1 h2 ⊢
  simp only [Bool.not_eq_true'] at h1 h2 ⊢
  exact O.tr a b c h1 h2
theorem leLen_tot (a b : List Int) : leLen a b = true ∨ leLen b a = true := by
  have O := ltLen_swo (fun x : List Int => x)
  rw [leLen_lt, leLen_lt]
  simp only [Bool.not_eq_true']
  cases h : ltLen b a with
  | false => exact .inl rfl
  | true => exact .inr (O.asym b a h)
theorem leLen_one {ms rs : List (List Int)} (h1 : ms.Perm rs) (h2 : ms.Pairwise (fun x y => ltLen y x = false)) : ms = isort leLen rs :=
  sorted_one leLen_an (h1.trans (isort_perm leLen rs).symm) (h2.imp fun h => by rw [leLen_lt, h]; rfl) (isort_sorted leLen_tr leLen_tot rs)
theorem s_slen {n : Str} {p p1 p2 p3 p4 p5 lpos kpos pp : Pos} {k1 : Nat} {scope : Scope} {K0 : Nat} (hK : X.K = E.K) (ok : LamOk E X) (hr : Room (K0 + 3) X.A) (hg : Gl X "sorted") (hm : X.mg "sorted" = none) (hml : X.mg "len" = none) (ha : PE X a (tE E W x)) (hst : starEach [a] X.env = [(false, eval a X.env)])
    (S : FnScope [n] [n] scope) (hn : scope.names.lookup n = some .local) (hln : scope.names.lookup (Str.ofString "len") = some NameKind.globalImplicit) (hd : (n == ("__debug__" : Str)) = false) (hcd : (n == ("__classdict__" : Str)) = false) :
    PE X (.Call (.Name "sorted" p) [a] [⟨some "key", .Lambda (lamP n pp) (.Tuple [.Call (.Name "len" p1) [.Name n p2] [] p3, .Name n p4] k1 p5) scope lpos, kpos⟩] pos) (tE E W (.blt .slen (.cons x .nil))) := by
  refine ⟨fun pins s σ H Q I h => ?_⟩
  obtain ⟨st, P, r, h⟩ := h
  have h0 : tE E W x σ H fun v H1 => ∃ d, RepB E.K E.cl P H1 v d ∧ Sm E H H1 ∧ Aft E W P σ H (nx (dBlt E.G .slen [d])) fun d => ∀ v H', Sm E H H' → RepX E P (.blt .slen (.cons x .nil)) H H' v d → Q v H' := by
    refine one_ (g := fun d => nx (dBlt E.G .slen [d])) r ?_ fun d v H1 s1 r1 h1 => ⟨d, r1.b, s1, h1⟩
    have e : ev E.G (.blt .slen (.cons x .nil)) st = (ev E.G x st).bind fun d => nx (dBlt E.G .slen [d]) := by
      show (R.bind (R.bind (ev E.G x st) fun a => R.bind (.ok []) fun ds => .ok (a :: ds)) fun ds => nx (dBlt E.G .slen ds)) = _
      cases ev E.G x st <;> rfl
    rw [← e]
    exact h
  have hA : PA X [a] (tCons (tE E W x) tNil) := pa_cons ha pa_nil hst
  refine wpAny_Call_Name_kw (ld_blt I hg hm boot_sorted ?_ (by decide) (by decide))
  refine PyProof.Rows.callWith_kw (thn (hA.run pos pins s σ H (fun vs H1 => ∃ v d, vs = [v] ∧ RepB E.K E.cl P H1 v d ∧ Sm E H H1 ∧ Aft E W P σ H (nx (dBlt E.G .slen [d])) fun d => ∀ v H', Sm E H H' → RepX E P (.blt .slen (.cons x .nil)) H H' v d → Q v H') I ?_) fun us s1 hus => ?_) (by rw [hst]; rfl) (by rw [hst]; rfl)
  · obtain ⟨st', P', r', h'⟩ := h0
    exact ⟨st', P', r', h'.imp (Sm.refl H) fun d _ k v H1 s1 r1 => let ⟨d', q1, q2, q3⟩ := k v H1 s1 r1; ⟨v, d', rfl, q1, q2, q3⟩⟩
  obtain ⟨vs, H1, I1, rv, v, d, rfl, rd, s1', h1⟩ := hus
  obtain ⟨u, rfl, ru⟩ := rv.one
  obtain ⟨d', e1, h2⟩ := h1.nx
  -- the rows
  cases d with
  | lst ds =>
    obtain ⟨rs, e2, e3⟩ := rb_ok (show rb (D.rows ds) _ = .ok d' from e1)
    obtain ⟨hz, rfl⟩ := chk_ok e3
    obtain ⟨l, xs, rfl, ra, rr⟩ := rd.lst
    cases (show u = Value.ref l from ru)
    obtain ⟨c, PT, TB, hcode, hmem, huq⟩ := ok.ex
    show wpAny _ _ (evalAll [do let v ← eval (.Lambda _ _ _ _) X.env; standAt pos; pure v]) _ _ _
    have hdf : defaultsOf (lamP n pp) X.env = ([], []) := rfl
    have hnf : ∀ y ∈ scope.names, y.2 ≠ .free := S.nofree
    refine wpAny_evalAll_cons (wpAny_bind (lam_mk I1 TB hcode hmem huq (r.same s1').tab hdf hnf fun f c' pm ctv H2 s2 I2 sm2 hf hfn hsz hco => wpAny_bind (wpAny_standAt (wpAny_pure (wpAny_evalAll_nil ?_)))))
    show wpAny _ _ (call (.builtin "sorted") [.ref l] [(Str.ofString "key", .ref f)]) _ _ _
    have ff : FpOk X pins H2 f := I1.fpOk hsz hfn
    have I3 := I2.pinned (fp := [f]) (fun b hb => by rw [List.mem_singleton.mp hb]; exact ff) (fun b hb => by rw [List.mem_singleton.mp hb]; exact ⟨_, hf, fun v z => nomatch z⟩)
    have hpf := mem_pinsAt (fp := [f]) (List.mem_singleton.mpr rfl) hf
    have kc : KC X X.A.in1.in1 (.ref f) (f, PySem.W.kla_obj "<lambda>" (X.env.qual ++ "<lambda>") (lamP n pp) (.Tuple [.Call (.Name "len" p1) [.Name n p2] [] p3, .Name n p4] k1 p5) scope [] pm c' ctv) c' (LamX.CodeO c' (X.env.qual ++ "<lambda>")) := by
      refine ⟨fun pins' σ' H' s' t ns hm' hc' I' ht => ?_⟩
      have gf := (I'.pin _ (List.mem_append_right _ hm')).1
      obtain ⟨⟨oc, ws, tk, g1, g2, g3⟩, _⟩ := I'.hok c' _ hc'
      have rm : Room (K0 + 1) X.A.in1.in1 := (show Room (K0 + 2) X.A.in1 from hr.in1).in1
      have run := lam_run (k := K0) (n := n) (v := .ref t) (Q := fun v H'' => ∃ p, v = .ref p ∧ H' p = none ∧ H'' = upd H' p (.tup [.int ns.length, .ref t])) (XE := fun _ _ _ => False) gf ⟨c', oc, ws, tk, rfl, g1, g2, g3⟩ S (bind_all (as := [⟨n, none, pp⟩]) rfl rfl (by simp) rfl) rm I'.env0.in1.in1 rfl
        (lam_body (X := cxOf _ X.prog X.w X.K X.mg X.base [n] _ scope f (.ref c') X.A.in1.in1 X.stack s' H' _) rfl (.inl hn) hd hcd hln hml) ⟨t, ns.map V.int, rfl, ht, fun p hp => ⟨p, rfl, hp, by rw [List.length_map]⟩⟩
      refine wpAny_call (codeAny_mono run fun rr s'' hq => ?_)
      cases rr with
      | error e => exact (cx_no hq).elim
      | ok fl =>
        cases fl with
        | ret u' =>
          obtain ⟨v', H'', I'', rv', p, rfl, hp, rfl⟩ := I'.after hq
          exact ⟨p, rv', hp, I''⟩
        | next => exact False.elim hq
        | brk => exact False.elim hq
        | cont => exact False.elim hq
    have hxs : Paired (fun v ns => ∃ t, v = V.ref t ∧ SqT X.K H2 t (ns.map V.int) ∧ TupAt E.K P H2 t (ns.map V.int)) xs rs := by
      rw [hK]
      exact rows_of (rr.same sm2) e2
    have hl2 : SqL X.K H2 l xs := .inl (rd_mono (fun o n q => sm2.get l o q n) ra)
    refine wpAny_mono (sorted_key (E := X.xe) (Q := Q) (by have := hr.un; omega) kc I3 (List.mem_append_right _ hpf) hco hl2 (by rw [rr.length]; exact of_decide_eq_true hz) hxs fun H3 p ys rs' s23 hp3 hy hpm hso => ?_) (fun v s' ⟨v', H', I', r', q'⟩ => ⟨v', H', I'.unpinned, r', q'⟩) fun _ _ z => z
    have es : rs' = isort leLen rs := leLen_one hpm hso
    have s03 : Sm E H H3 := (s1'.trans sm2).trans (.of s23)
    have rY : Reps E.K E.cl P H3 ys (rs'.map rowD) := by
      clear hpm hso es
      induction hy with
      | nil => exact .nil
      | cons h _ ih =>
        obtain ⟨t, rfl, _, ht⟩ := h
        exact .cons (.tup (ht.mono fun b o _ n q => s23 b o q) (reps_ints _)) ih
    rw [← es] at h2
    exact h2 _ _ (s03.trans (same_upd hp3)) (.ans rfl (ans_lst ((r.same s03).dom) hp3 rY) s03)
  | _ => cases e1
end
end Z

/-! Zm: sorted(set(xs)), xs triples of small ints; list(range(..)). -/
namespace Z
open PySem PySem.Spec PyProof.Rows L2
theorem ddp_mem {x : List Int} : ∀ {l : List (List Int)}, x ∈ ddp l ↔ x ∈ l
  | [] => Iff.rfl
  | y :: r => by
    unfold ddp
    split
    · rename_i h
      rw [ddp_mem (l := r), List.mem_cons]
      exact ⟨.inr, fun z => z.elim (fun e => by rw [e]; exact h) id⟩
    · rw [List.mem_cons, List.mem_cons, ddp_mem (l := r)]
theorem ddp_nodup : ∀ l : List (List Int), (ddp l).Nodup
  | [] => List.nodup_nil
  | y :: r => by
    unfold ddp
    split
    · exact ddp_nodup r
    · rename_i h
      exact List.nodup_cons.mpr ⟨fun z => h (ddp_mem.mp z), ddp_nodup r⟩
theorem leLex_an (a b : List Int) (h1 : leLex a b = true) (h2 : leLex b a = true) : a = b := by
  unfold leLex at h1 h2
  exact lex_an (by simpa using h2) (by simpa using h1)
theorem leLex_tr (a b c : List Int) (h1 : leLex a b = true) (h2 : leLex b c = true) : leLex a c = true := by
  have O := NtL.swo_lexL (fun x : List Int => x)
  unfold leLex at *
  simp only [Bool.not_eq_true'] at h1 h2 ⊢
  exact O.tr a b c h1 h2
theorem leLex_tot (a b : List Int) : leLex a b = true ∨ leLex b a = true := by
  have O := NtL.swo_lexL (fun x : List Int => x)
  unfold leLex
  simp only [Bool.not_eq_true']
  cases h : HT.lexLt b a with
  | false => exact .inl rfl
  | true => exact .inr (O.asym b a h)
theorem okRow_of {r : List Int} (h : okRow r = true) : ∃ x y z, r = [x, y, z] ∧ (0 ≤ x ∧ x < 64) ∧ (0 ≤ y ∧ y < 64) ∧ (0 ≤ z ∧ z < 64) := by
  unfold okRow at h
  match r, h with
  | [x, y, z], h =>
    simp at h
    exact ⟨x, y, z, rfl, h⟩
  | [], h => simp at h
  | [_], h => simp at h
  | [_, _], h => simp at h
  | _ :: _ :: _ :: _ :: _, h => simp at h
theorem code_le {q r : List Int} (hq : okRow q = true) (hr : okRow r = true) (h : TS.code 64 q ≤ TS.code 64 r) : leLex q r = true := by
  obtain ⟨x, y, z, rfl, h1, h2, h3⟩ := okRow_of hq
  obtain ⟨x', y', z', rfl, g1, g2, g3⟩ := okRow_of hr
  have e1 : (64 : Int) ^ 2 = 4096 := by decide
  have e2 : (64 : Int) ^ 1 = 64 := by decide
  have e3 : (64 : Int) ^ 0 = 1 := by decide
  have h' : x * 64 ^ 2 + (y * 64 ^ 1 + (z * 64 ^ 0 + 0)) ≤ x' * 64 ^ 2 + (y' * 64 ^ 1 + (z' * 64 ^ 0 + 0)) := h
  rw [e1, e2, e3] at h'
  unfold leLex
  simp only [HT.lexLt_cons, HT.lexLt_nil_nil, Bool.not_eq_true']
  by_cases a : x' = x
  · rw [if_pos a]
    by_cases b : y' = y
    · rw [if_pos b]
      by_cases c : z' = z
      · rw [if_pos c]
      · rw [if_neg c]
        simp only [decide_eq_false_iff_not]
        omega
    · rw [if_neg b]
      simp only [decide_eq_false_iff_not]
      omega
  · rw [if_neg a]
    simp only [decide_eq_false_iff_not]
    omega
section
variable {E : En} {W : WX} {X : Cx} {a b : Expr} {x y : Ex} {pos : Pos}
theorem rows_ks {K : PySem.W.Frag} {cl : Nat → Addr} {P : Addr → Prop} {H : Hp} {xs : List V} {ds : List D} {rs : List (List Int)} (r : Reps K cl P H xs ds) (e : D.rows ds = some rs) :
    ∃ ks : List (Addr × List Int), xs = ks.map (fun p => V.ref p.1) ∧ ks.map (·.2) = rs ∧ ∀ p ∈ ks, TupAt K P H p.1 (p.2.map V.int) := by
  have h := rows_of r e
  clear r e
  induction h with
  | nil => exact ⟨[], rfl, rfl, fun p h => nomatch h⟩
  | @cons v ns _ _ h _ ih =>
    obtain ⟨ks, h1, h2, h3⟩ := ih
    obtain ⟨t, rfl, _, ht⟩ := h
    refine ⟨(t, ns) :: ks, by rw [h1]; rfl, by rw [← h2]; rfl, fun p hp => ?_⟩
    rcases List.mem_cons.mp hp with rfl | hp
    · exact ht
    · exact h3 p hp
theorem s_sset {p p2 pos2 : Pos} (hK : X.K = E.K) (hc : X.calm = true) (hu : X.A.units + 64 < cLine) (hg : Gl X "sorted") (hm : X.mg "sorted" = none) (hg2 : Gl X "set") (hm2 : X.mg "set" = none) (ha : PE X a (tE E W x)) (hst : starEach [a] X.env = [(false, eval a X.env)]) :
    PE X (.Call (.Name "sorted" p) [.Call (.Name "set" p2) [a] [] pos2] [] pos) (tE E W (.blt .sset (.cons x .nil))) := by
  have inner : PE X (.Call (.Name "set" p2) [a] [] pos2) (tCB (rSetOfT X.K X.prog X.w) (tCons (tE E W x) tNil)) := pe_callTy (cr_setOfT hc hu) hg2 hm2 boot_set (pa_cons ha pa_nil hst) (by decide) (by decide) hst rfl
  refine PE.to (pe_callB (cr_sortedT hc) hg hm boot_sorted (pa_cons inner pa_nil) (by decide) (by decide)) fun σ H Q h => ?_
  obtain ⟨st, P, r, h⟩ := h
  have e0 : ev E.G (.blt .sset (.cons x .nil)) st = (ev E.G x st).bind fun d => nx (dBlt E.G .sset [d]) := by
    show (R.bind (R.bind (ev E.G x st) fun a => R.bind (.ok []) fun ds => .ok (a :: ds)) fun ds => nx (dBlt E.G .sset ds)) = _
    cases ev E.G x st <;> rfl
  rw [e0] at h
  refine one_ r h fun d v H1 s1 r1 h1 => ?_
  obtain ⟨d', e1, h2⟩ := h1.nx
  cases d with
  | lst ds =>
    obtain ⟨rs, e2, e3⟩ := rb_ok (show rb (D.rows ds) _ = .ok d' from e1)
    obtain ⟨hz, rfl⟩ := chk_ok e3
    obtain ⟨z1, z2⟩ := Bool.and_eq_true_iff.mp hz
    have z1 := of_decide_eq_true z1
    have z2 := List.all_eq_true.mp z2
    obtain ⟨l, xs, rfl, ra, rr⟩ := r1.b.lst
    obtain ⟨ks, rfl, k2, k3⟩ := rows_ks rr e2
    refine ⟨l, ks, rfl, .inl ra, ?_, ?_, ?_⟩
    · rw [hK]; exact fun p hp => (k3 p hp).sq
    · have := congrArg List.length k2
      rw [List.length_map] at this
      omega
    · intro sa L hsa l1 l2
      have s12 : Sm E H1 (upd H1 sa (SetTO X.prog X.w sa L)) := same_upd hsa
      have kt : ∀ q ∈ L, TupAt E.K P (upd H1 sa (SetTO X.prog X.w sa L)) q.1 (q.2.map V.int) := fun q hq => (k3 q (l1 q hq)).mono fun b o _ n e => s12.get b o e n
      have kr : ∀ q ∈ L, okRow q.2 = true := fun q hq => z2 _ (by rw [← k2]; exact List.mem_map_of_mem (l1 q hq))
      refine ⟨sa, L, 3, 64, rfl, upd_same, fun q hq => by rw [hK]; exact (kt q hq).sq, by decide, fun q hq => ?_, fun L' pn pm nd hl pw hpn => ?_⟩
      · obtain ⟨u1, u2, u3, e, b1, b2, b3⟩ := okRow_of (kr q hq)
        rw [e]
        refine ⟨rfl, fun m hm => ?_⟩
        simp at hm
        rcases hm with rfl | rfl | rfl
        · exact b1
        · exact b2
        · exact b3
      · have mem' : ∀ q ∈ L', q ∈ L := fun q hq => pm.mem_iff.mp hq
        have srt : (L'.map (·.2)).Pairwise (fun u v => leLex u v = true) := by
          refine List.pairwise_map.mpr (pw.imp_of_mem fun hq hr h => ?_)
          exact code_le (kr _ (mem' _ hq)) (kr _ (mem' _ hr)) h
        have prm : (L'.map (·.2)).Perm (ddp rs) := by
          refine (List.perm_ext_iff_of_nodup nd (ddp_nodup rs)).mpr fun u => ?_
          rw [ddp_mem]
          constructor
          · intro hu'
            obtain ⟨q, hq, rfl⟩ := List.mem_map.mp hu'
            rw [← k2]
            exact List.mem_map_of_mem (l1 q (mem' q hq))
          · intro hu'
            rw [← k2] at hu'
            obtain ⟨q, hq, rfl⟩ := List.mem_map.mp hu'
            obtain ⟨q', hq', e⟩ := List.mem_map.mp (l2 q hq)
            rw [← e]
            exact List.mem_map_of_mem (pm.mem_iff.mpr hq')
        have es : L'.map (·.2) = isort leLex (ddp rs) := sorted_one leLex_an (prm.trans (isort_perm leLex _).symm) srt (isort_sorted leLex_tr leLex_tot _)
        have s02 := s1.trans s12
        have rY : Reps E.K E.cl P (upd H1 sa (SetTO X.prog X.w sa L)) (L'.map fun q => V.ref q.1) ((L'.map (·.2)).map rowD) := by
          have g : ∀ M : List (Addr × List Int), (∀ q ∈ M, q ∈ L) → Reps E.K E.cl P (upd H1 sa (SetTO X.prog X.w sa L)) (M.map fun q => V.ref q.1) ((M.map (·.2)).map rowD) := fun M => by
            induction M with
            | nil => intro _; exact .nil
            | cons q M ih => intro h; exact .cons (.tup (kt q (h q List.mem_cons_self)) (reps_ints _)) (ih fun z hz => h z (List.mem_cons_of_mem _ hz))
          exact g L' mem'
        rw [← es] at h2
        exact h2 _ _ (s02.trans (same_upd hpn)) (.ans rfl (ans_lst ((r.same s02).dom) hpn rY) s02)
  | _ => cases e1
theorem rgV_rng (i j : Int) : rgV i j = (rngD i (j - i).toNat).map (fun d => match d with | .int k => V.int k | _ => V.non) := by
  unfold rgV rngD
  rw [List.map_map]
  rfl
theorem reps_rng {K : PySem.W.Frag} {cl : Nat → Addr} {P : Addr → Prop} {H : Hp} (i j : Int) : Reps K cl P H (rgV i j) (rngD i (j - i).toNat) := by
  unfold rgV rngD
  generalize List.range (j - i).toNat = l
  induction l with
  | nil => exact .nil
  | cons n l ih => exact .cons (.int _) ih
theorem rg_ok {i j : Int} (h : (decide (0 ≤ i) && decide (i ≤ 1000000) && decide (0 ≤ j) && decide (j ≤ 1000000)) = true) : RgOk i j := by
  simp only [Bool.and_eq_true, decide_eq_true_eq] at h
  exact ⟨by omega, by omega, by omega, by omega, by omega⟩
theorem s_lrg1 {p p2 pos2 : Pos} (hc : X.calm = true) (hg : Gl X "list") (hm : X.mg "list" = none) (hg2 : Gl X "range") (hm2 : X.mg "range" = none) (ha : PE X a (tE E W x)) (hst : starEach [a] X.env = [(false, eval a X.env)]) :
    PE X (.Call (.Name "list" p) [.Call (.Name "range" p2) [a] [] pos2] [] pos) (tE E W (.lrg (.k (.int 0)) x)) := by
  refine PE.to (pe_listRg hc hg hm (prg_1 hg2 hm2 ha hst)) fun σ H Q h => ?_
  obtain ⟨st, P, r, h⟩ := h
  refine one_ r (show Aft E W P σ H ((ev E.G x st).bind fun b => match D.int 0, b with
    | .int i, .int j => chk (decide (0 ≤ i) && decide (i ≤ 1000000) && decide (0 ≤ j) && decide (j ≤ 1000000)) (D.lst (rngD i (j - i).toNat))
    | _, _ => .no) _ from h) fun d v H1 s1 r1 h1 => ?_
  cases d with
  | int j =>
    cases r1.b.int
    cases hk : (decide ((0 : Int) ≤ 0) && decide ((0 : Int) ≤ 1000000) && decide (0 ≤ j) && decide (j ≤ 1000000)) with
    | false => simp only [hk] at h1; exact (show False from h1).elim
    | true =>
      simp only [hk] at h1
      exact ⟨j, rfl, rg_ok hk, fun q hq => (show ∀ v H', Sm E H H' → RepX E P (.lrg (.k (.int 0)) x) H H' v (.lst (rngD 0 (j - 0).toNat)) → Q v H' from h1) _ _ (s1.trans (same_upd hq)) (.ans rfl (ans_lst (r.same s1).dom hq (reps_rng 0 j)) s1)⟩
  | _ => exact (show False from h1).elim
theorem s_lrg2 {p p2 pos2 : Pos} (hc : X.calm = true) (hg : Gl X "list") (hm : X.mg "list" = none) (hg2 : Gl X "range") (hm2 : X.mg "range" = none) (ha : PE X a (tE E W x)) (hb : PE X b (tE E W y)) (hs : starEach [a, b] X.env = (false, eval a X.env) :: starEach [b] X.env) (hs2 : starEach [b] X.env = (false, eval b X.env) :: starEach [] X.env)
    (hpl : (backTo pos2 (starEach [b] X.env)).any (·.1) = false) : PE X (.Call (.Name "list" p) [.Call (.Name "range" p2) [a, b] [] pos2] [] pos) (tE E W (.lrg x y)) := by
  refine PE.to (pe_listRg hc hg hm (prg_2 hg2 hm2 ha hb hs hs2 hpl)) fun σ H Q h => ?_
  obtain ⟨st, P, r, h⟩ := h
  have h0 : Aft E W P σ H ((ev E.G x st).bind fun a => (ev E.G y st).bind fun b => match a, b with
    | .int i, .int j => chk (decide (0 ≤ i) && decide (i ≤ 1000000) && decide (0 ≤ j) && decide (j ≤ 1000000)) (D.lst (rngD i (j - i).toNat))
    | _, _ => .no) fun d => ∀ v H', Sm E H H' → RepX E P (.lrg x y) H H' v d → Q v H' := h
  refine two_ (Q := fun v w H2 => ∃ i j : Int, v = .int i ∧ w = .int j ∧ RgOk i j ∧ ∀ q, H2 q = none → Q (.ref q) (upd H2 q (.lst (rgV i j)))) r h0 fun d1 d2 v1 v2 H1 H2 s1 s2 r1 r2 h2 => ?_
  cases d1 with
  | int i =>
    cases d2 with
    | int j =>
      cases r1.b.int
      cases r2.b.int
      cases hk : (decide (0 ≤ i) && decide (i ≤ 1000000) && decide (0 ≤ j) && decide (j ≤ 1000000)) with
      | false => simp only [hk] at h2; exact (show False from h2).elim
      | true =>
        simp only [hk] at h2
        have s12 := s1.trans s2
        exact ⟨i, j, rfl, rfl, rg_ok hk, fun q hq => (show ∀ v H', Sm E H H' → RepX E P (.lrg x y) H H' v (.lst (rngD i (j - i).toNat)) → Q v H' from h2) _ _ (s12.trans (same_upd hq)) (.ans rfl (ans_lst (r.same s12).dom hq (reps_rng i j)) s12)⟩
    | _ => exact (show False from h2).elim
  | _ => cases d2 <;> exact (show False from h2).elim
end
end Z

/-! Zk: from the text to the small language. -/
namespace Z
open PySem PySem.Spec PyProof.Rows L2
structure Tb where
  fns : List (Str × Nat)
  ats : List (Str × Nat)
  cls : List (Str × Nat)
  cst : List (Str × D)
  fb : Nat → List Bool
  mfs : Nat → List Nat
  nob : List Str
structure Sc where
  N : List Str
  sc : Scope
  fnb : Str → Bool
  lam : Bool
def ixOf : List Str → Str → Option Nat
  | [], _ => none
  | y :: r, x => if y = x then some 0 else (ixOf r x).map (· + 1)
def visB (sc : Scope) (x : Str) : Bool := match sc.names.lookup x with
  | some .local => true
  | some .cell => true
  | some .free => true
  | _ => false
def locB (sc : Scope) (x : Str) : Bool := match sc.names.lookup x with
  | some .local => true
  | some .cell => true
  | _ => false
def okNm (x : Str) : Bool := !(x == (Str.ofString "__debug__")) && !(x == (Str.ofString "__classdict__"))
def glB (sc : Scope) (x : Str) : Bool := match sc.names.lookup x with
  | some .globalImplicit => !(x == (Str.ofString "__debug__"))
  | _ => false
def isLoc (sc : Scope) (x : Str) : Bool := match sc.names.lookup x with
  | some .local => true
  | _ => false
def boOf : Operator → Option Bo
  | .Add => some .add
  | .Sub => some .sub
  | .Mult => some .mul
  | .FloorDiv => some .fdiv
  | .Mod => some .mod
  | _ => none
def isNonE : Expr → Bool
  | .Constant .none _ _ => true
  | _ => false
def coOf : CmpOp → Expr → Option Co
  | .Eq, _ => some .eq
  | .NotEq, _ => some .ne
  | .Lt, _ => some .lt
  | .LtE, _ => some .le
  | .Gt, _ => some .gt
  | .GtE, _ => some .ge
  | .In, _ => some .isin
  | .NotIn, _ => some .notin
  | .Is, _ => some .isN
  | .IsNot, _ => some .notN
def isSetE : Expr → Bool
  | .Set _ _ _ => true
  | _ => false
def isSliceE : Expr → Bool
  | .Slice _ _ _ _ => true
  | _ => false
def isTupE : Expr → Bool
  | .Tuple _ _ _ => true
  | _ => false
def isStarE : Expr → Bool
  | .Starred _ _ => true
  | _ => false
def isCallE : Expr → Bool
  | .Call _ _ _ _ => true
  | _ => false
/-- a test by its value -/
def valE : Expr → Bool
  | .UnaryOp _ _ _ => false
  | .BoolOp _ _ _ => false
  | .IfExp _ _ _ _ => false
  | .Compare _ _ _ _ => false
  | _ => true
def tyOf (x : Str) : Option (Ty × String) :=
  if x = Str.ofString "int" then some (.int, "int") else if x = Str.ofString "bool" then some (.bool, "bool") else if x = Str.ofString "str" then some (.str, "str") else
    if x = Str.ofString "tuple" then some (.tuple, "tuple") else if x = Str.ofString "list" then some (.list, "list") else if x = Str.ofString "dict" then some (.dict, "dict") else none
inductive Fk where | fn (id : String) | ty (id : String)
def bfOf : Str → Nat → Option (Bf × Fk)
  | x, 1 => if x = Str.ofString "len" then some (.len, .fn "len") else if x = Str.ofString "abs" then some (.abs, .fn "abs") else if x = Str.ofString "int" then some (.int, .ty "int") else
    if x = Str.ofString "all" then some (.all, .fn "all") else if x = Str.ofString "any" then some (.any, .fn "any") else if x = Str.ofString "sum" then some (.sum, .fn "sum") else
    if x = Str.ofString "sorted" then some (.sorted, .fn "sorted") else if x = Str.ofString "tuple" then some (.tuple, .ty "tuple") else if x = Str.ofString "list" then some (.list, .ty "list") else none
  | x, 2 => if x = Str.ofString "min" then some (.min2, .fn "min") else if x = Str.ofString "max" then some (.max2, .fn "max") else none
  | _, _ => none
def nobB (tb : Tb) (x : Str) : Bool := tb.nob.contains x
section
variable (tb : Tb)
/-- targets -/
def cGn (C : Sc) : Expr → Option Tg
  | .Name x _ => if locB C.sc x && (C.fnb x || isLoc C.sc x) then (ixOf C.N x).map .nm else none
  | _ => none
mutual
def cG (C : Sc) : Nat → Expr → Option Tg
  | 0, _ => none
  | n + 1, .Tuple es _ _ => (cGs C n es).map .tp
  | _ + 1, e => cGn C e
def cGs (C : Sc) : Nat → List Expr → Option Tg
  | 0, _ => none
  | _ + 1, [] => some .nil
  | n + 1, e :: es => match cG C n e, cGs C n es with
    | some a, some r => if isStarE e then none else some (.cons a r)
    | _, _ => none
end
def ownOf (N : List Str) (scope : Scope) : List (Str × Nat) := scope.names.filterMap fun y => match y.2 with
  | .local => (ixOf N y.1).map fun i => (y.1, i)
  | .cell => (ixOf N y.1).map fun i => (y.1, i)
  | _ => none
def blkSc (C : Sc) (scope : Scope) : Sc := ⟨C.N, relS scope C.sc, fun x => scope.names.lookup x == some .cell, false⟩
def subL (a b : List Nat) : Bool := a.all fun i => b.contains i
def lamPat : Arguments → Expr → Scope → Option Str
  | ⟨[], [⟨n, none, _⟩], none, [], [], none, []⟩, .Tuple [.Call (.Name l _) [.Name x _] [] _, .Name y _] _ _, scope =>
    if l = Str.ofString "len" ∧ x = n ∧ y = n ∧ okNm n = true ∧ scope.names.lookup n = some .local ∧ scope.names.lookup (Str.ofString "len") = some .globalImplicit ∧ scope.kind = .function ∧ scope.isCoroutine = false ∧ scope.isGenerator = false ∧ scope.names.all (fun y => !(y.2 == .free)) = true then some n else none
  | _, _, _ => none
mutual
def cE (C : Sc) : Nat → Bool → Expr → Option Ex
  | 0, _, _ => none
  | n + 1, m, e => match e with
    | .Name x _ => if visB C.sc x && okNm x then (ixOf C.N x).map (fun i => if m then .b i else .v i) else if glB C.sc x then (tb.cst.lookup x).map .k else none
    | .Constant (.int i) _ _ => some (.k (.int i))
    | .Constant .none _ _ => some (.k .non)
    | .Constant (.bool b) _ _ => some (.k (.bl b))
    | .Constant (.str z) _ _ => some (.k (.str z))
    | .BinOp a op b _ => match boOf op, cE C n true a, cE C n true b with
      | some o, some x, some y => some (.bin o x y)
      | _, _, _ => none
    | .UnaryOp .USub a _ => (cE C n true a).map .neg
    | .UnaryOp .Not a _ => (cE C n true a).map .nt
    | .BoolOp _ [a] _ => if m then none else cE C n false a
    | .BoolOp .And (a :: b :: r) pos => match cE C n true a, cE C n false (.BoolOp .And (b :: r) pos) with
      | some x, some y => if isB y then none else some (.an x y)
      | _, _ => none
    | .BoolOp .Or (a :: b :: r) pos => match cE C n true a, cE C n false (.BoolOp .Or (b :: r) pos) with
      | some x, some y => if isB y then none else some (.orr x y)
      | _, _ => none
    | .IfExp c a b _ => match cT C n c, cE C n false a, cE C n false b with
      | some z, some x, some y => if isB x || isB y then none else some (.ite z x y)
      | _, _, _ => none
    | .Compare a [op] [b] _ => match coOf op b, cE C n true a, cE C n true b with
      | some o, some x, some y => if isSetE b then none else some (.cmp o x y)
      | _, _, _ => none
    | .Compare a [op, op2] [b, c] _ => match coOf op b, coOf op2 c, cE C n true a, cE C n true b, cE C n true c with
      | some o, some p, some x, some y, some z => if isSetE c then none else some (.chn o p x y z)
      | _, _, _, _, _ => none
    | .Tuple es _ _ => match cL C n false es with
      | some l => if nbL l then some (.tup l) else none
      | none => none
    | .List es _ => match cL C n false es with
      | some l => if nbL l then some (.lst l) else none
      | none => none
    | .Dict [] [] _ => some (.dct .nil)
    | .Dict (k :: ks) (v :: vs) _ => match cP C n (k :: ks) (v :: vs) with
      | some ps => if prsOk ps && decide ((k :: ks).length ≤ 15) then some (.dct (prs ps)) else none
      | none => none
    | .Subscript a (.Slice lo hi none _) _ => match cE C n true a, cO C n lo, cO C n hi with
      | some x, some y, some z => some (.sl x y z)
      | _, _, _ => none
    | .Subscript a b _ => match cE C n true a, cE C n true b with
      | some x, some y => if isSliceE b then none else some (.idx x y)
      | _, _ => none
    | .Attribute a f _ => match cE C n true a, tb.ats.lookup f with
      | some x, some i => if isCallE a then none else some (.att x i)
      | _, _ => none
    | .Call f args kws cp => cK C n f args kws cp
    | .ListComp elt gs scope _ => cLC C n elt gs scope
    | _ => none
/-- a call -/
def cK (C : Sc) : Nat → Expr → List Expr → List Keyword → Pos → Option Ex
  | 0, _, _, _, _ => none
  | n + 1, .Name x _, args, [], _ => cC C n x args
  | n + 1, .Name x _, [a], [kw], _ => if glB C.sc x && nobB tb x && decide (x = Str.ofString "sorted") && decide (kw.arg = some (Str.ofString "key")) && C.lam && nobB tb (Str.ofString "len") && !isStarE a then (match kw.value with
    | .Lambda ps body scope _ => (match lamPat ps body scope, cE C n true a with
      | some _, some y => some (.blt .slen (.cons y .nil))
      | _, _ => none)
    | _ => none) else none
  | n + 1, .Attribute o f ap, args, [], cp => if isCallE o || !decide (ap.endLine = cp.line) then none else (match cE C n true o with
    | some x => (match tb.ats.lookup f with
      | some i => (match cL C n false args with
        | some l => if ((tb.mfs i).all fun g => match tb.fb g with
            | false :: bs => argOk bs l
            | _ => false) && decide (args.length < 20) && args.all (fun e => !isStarE e) then some (.meth x i l) else none
        | none => none)
      | none => if decide (f = Str.ofString "get") then cD C n x args else none)
    | none => none)
  | _ + 1, _, _, _, _ => none
/-- d.get(k) -/
def cD (C : Sc) : Nat → Ex → List Expr → Option Ex
  | 0, _, _ => none
  | n + 1, x, [k] => if isStarE k then none else (cE C n true k).map (.dget x)
  | _ + 1, _, _ => none
/-- a list comprehension -/
def cLC (C : Sc) : Nat → Expr → List Comprehension → Scope → Option Ex
  | 0, _, _, _ => none
  | n + 1, elt, [g], scope => if g.is_async = 0 then (match cI C n true g.target g.iter, cG (blkSc C scope) n g.target, cE (blkSc C scope) n false elt, cQ (blkSc C scope) n g.ifs with
    | some s, some t, some e, some c => if blkC C.N C.sc scope (ownOf C.N scope) && subL (tgS t) ((ownOf C.N scope).map (·.2)) && subL ((ownOf C.N scope).map (·.2)) (tgS t) && !isB e then some (.lc e t s c) else none
    | _, _, _, _ => none) else none
  | _ + 1, _, _, _ => none
/-- a call by name -/
def cC (C : Sc) : Nat → Str → List Expr → Option Ex
  | 0, _, _ => none
  | n + 1, x, args => if !glB C.sc x || args.any isStarE then none else match tb.fns.lookup x with
    | some f => (match cA C n (tb.fb f) args with
      | some l => if argOk (tb.fb f) l then some (.call f l) else none
      | none => none)
    | none => if !nobB tb x then none else match args with
      | [.Call (.Name y _) [a] [] _] =>
        if decide (x = Str.ofString "sorted") && decide (y = Str.ofString "set") && glB C.sc y && nobB tb y && !isStarE a then (cE C n true a).map fun z => .blt .sset (.cons z .nil)
        else if decide (x = Str.ofString "list") && decide (y = Str.ofString "range") && glB C.sc y && nobB tb y && !isStarE a then (cE C n true a).map fun z => .lrg (.k (.int 0)) z
        else cB C n x args
      | [.Call (.Name y _) [a, b] [] _] =>
        if decide (x = Str.ofString "list") && decide (y = Str.ofString "range") && glB C.sc y && nobB tb y && !isStarE a && !isStarE b then (match cE C n true a, cE C n true b with
          | some u, some v => some (.lrg u v)
          | _, _ => none)
        else cB C n x args
      | [a, .Name t _] => if decide (x = Str.ofString "isinstance") then (match cE C n true a with
          | some u => if glB C.sc t then (match tb.cls.lookup t with
            | some c => some (.isi u (.own c))
            | none => if nobB tb t then (tyOf t).map (fun p => .isi u p.1) else none) else none
          | none => none)
        else cB C n x args
      | _ => cB C n x args
def cB (C : Sc) : Nat → Str → List Expr → Option Ex
  | 0, _, _ => none
  | n + 1, x, args => match bfOf x args.length, cL C n true args with
    | some (f, _), some l => some (.blt f l)
    | _, _ => none
def cT (C : Sc) : Nat → Expr → Option Ex
  | 0, _ => none
  | n + 1, e => match e with
    | .UnaryOp .Not a _ => (cT C n a).map .tnt
    | .BoolOp op vs _ => cW C n op vs
    | .Compare a [op] [b] _ => match coOf op b, cE C n true a, cE C n true b with
      | some o, some x, some y => if isSetE b then none else some (.tv (.cmp o x y))
      | _, _, _ => none
    | .Compare a [op, op2] [b, c] _ => match coOf op b, coOf op2 c, cE C n true a, cE C n true b, cE C n true c with
      | some o, some p, some x, some y, some z => if isSetE c then none else some (.tv (.chn o p x y z))
      | _, _, _, _, _ => none
    | e => if valE e then (cE C n true e).map .tv else none
def cW (C : Sc) : Nat → BoolOp → List Expr → Option Ex
  | 0, _, _ => none
  | n + 1, _, [a] => cT C n a
  | n + 1, .And, a :: b :: r => match cT C n a, cW C n .And (b :: r) with
    | some x, some y => some (.tan x y)
    | _, _ => none
  | n + 1, .Or, a :: b :: r => match cT C n a, cW C n .Or (b :: r) with
    | some x, some y => some (.tor x y)
    | _, _ => none
  | _ + 1, _, [] => none
/-- a clause's tests -/
def cQ (C : Sc) : Nat → List Expr → Option Ex
  | 0, _ => none
  | _ + 1, [] => some .tyes
  | n + 1, [c] => cT C n c
  | _ + 1, _ => none
/-- items of a display, arguments that are only looked at -/
def cL (C : Sc) : Nat → Bool → List Expr → Option Ex
  | 0, _, _ => none
  | _ + 1, _, [] => some .nil
  | n + 1, m, .Starred e _ :: es => match cE C n true e, cL C n m es with
    | some x, some r => some (.star x r)
    | _, _ => none
  | n + 1, m, e :: es => match cE C n m e, cL C n m es with
    | some x, some r => some (.cons x r)
    | _, _ => none
/-- arguments of an own def -/
def cA (C : Sc) : Nat → List Bool → List Expr → Option Ex
  | 0, _, _ => none
  | _ + 1, [], [] => some .nil
  | n + 1, b :: bs, e :: es => match cE C n b e, cA C n bs es with
    | some x, some r => if isStarE e then none else some (.cons x r)
    | _, _ => none
  | _ + 1, _, _ => none
def cP (C : Sc) : Nat → List (Option Expr) → List Expr → Option (List (Ex × Ex))
  | 0, _, _ => none
  | _ + 1, [], [] => some []
  | n + 1, some k :: ks, v :: vs => match cE C n true k, cE C n false v, cP C n ks vs with
    | some x, some y, some r => some ((x, y) :: r)
    | _, _, _ => none
  | _ + 1, _, _ => none
def cO (C : Sc) : Nat → Option Expr → Option Ex
  | 0, _ => none
  | _ + 1, none => some .nil
  | n + 1, some e => match cE C n true e with
    | some x => if isNo x then none else some x
    | none => none
def cI (C : Sc) : Nat → Bool → Expr → Expr → Option Ex
  | 0, _, _, _ => none
  | n + 1, m, tg, e => match e with
    | .Call (.Name x _) [a] [] _ =>
      if glB C.sc x && nobB tb x && decide (x = Str.ofString "range") && !isStarE a then (cE C n true a).map fun z => .sRng (.k (.int 0)) z
      else if glB C.sc x && nobB tb x && decide (x = Str.ofString "enumerate") && !isStarE a && isTupE tg then (cE C n m a).map .sEnum
      else (cE C n m e).map .sSeq
    | .Call (.Name x _) [a, b] [] _ =>
      if glB C.sc x && nobB tb x && decide (x = Str.ofString "range") && !isStarE a && !isStarE b then (match cE C n true a, cE C n true b with
        | some u, some v => some (.sRng u v)
        | _, _ => none)
      else if glB C.sc x && nobB tb x && decide (x = Str.ofString "zip") && !isStarE a && !isStarE b && isTupE tg then (match cE C n m a, cE C n m b with
        | some u, some v => some (.sZip u v)
        | _, _ => none)
      else (cE C n m e).map .sSeq
    | e => if isSetE e then none else (cE C n m e).map .sSeq
end
end
end Z

/-! Zn: the translation is right (expressions). -/
namespace Z
open PySem PySem.Spec PyProof.Rows L2
/-- nothing but the frame differs -/
structure SameW (X X' : Cx) : Prop where
  prog : X'.prog = X.prog
  w : X'.w = X.w
  K : X'.K = X.K
  mg : X'.mg = X.mg
  base : X'.base = X.base
  A : X'.A = X.A
def Ind (W : WX) : Prop := ∀ c d σ σ' H, W c d σ H → W c d σ' H
/-- what stands at g can be called as f -/
def Clb (E : En) (X : Cx) (g : Addr) (f : Nat) : Prop := ∀ (X' : Cx) (W' : WX), SameW X X' → Takes X' W' → Ind W' → CallsF E X' W' g f
structure Cs (E : En) (tb : Tb) (C : Sc) (X : Cx) (W : WX) : Prop where
  hK : X.K = E.K
  calm : X.calm = true
  nd : X.N.Nodup
  hN : X.N = C.N
  hsc : X.env.scope = C.sc
  hfn : X.fn = C.fnb
  room : Room 4 X.A
  tk : Takes X W
  ind : Ind W
  fns : ∀ x f, tb.fns.lookup x = some f → E.fb f = tb.fb f ∧ ∃ g, X.mg x = some (.ref g) ∧ PySem.W.keepIn X.K (.ref g) = true ∧ Clb E X g f
  ats : ∀ n i, tb.ats.lookup n = some i → AttOk E X n i ∧ ∀ c f, E.G.mt c i = some f → f ∈ tb.mfs i ∧ E.fb f = tb.fb f ∧ SlX.SCls X.K (E.cl c) ∧ ∃ g, Meth X.K (E.cl c) n g ∧ Clb E X g f
  cls : ∀ x c, tb.cls.lookup x = some c → X.mg x = some (.ref (E.cl c)) ∧ IsiOk E X (.own c) (.ref (E.cl c))
  tys : ∀ x t T, tyOf x = some (t, T) → IsiOk E X t (.type T)
  cst : ∀ x d, tb.cst.lookup x = some d → ∃ v u, X.mg x = some u ∧ RelV v u ∧ ∀ P H, Rep E.K E.cl P H v d
  nob : ∀ x, nobB tb x = true → X.mg x = none
  nnm : nobB tb "__name__" = false
  ln : LnOk E X
  lam : C.lam = true → LamOk E X
section
variable {E : En} {tb : Tb} {C : Sc} {X : Cx} {W : WX}
theorem AttOk.to {X' : Cx} {n : Str} {i : Nat} (h : AttOk E X n i) (s : SameW X X') : AttOk E X' n i := by
  refine ⟨fun c q => by rw [s.K]; exact h.cls c q, fun c j q => by rw [s.K]; exact h.slot c j q, fun c f q1 q2 => ?_⟩
  obtain ⟨p, g, k, h1, h2, h3, h4, h5, h6, h7⟩ := (h.prop c f q1 q2).ex
  refine ⟨p, g, k, ?_⟩
  rw [s.K, s.prog, s.w, s.mg, s.base, s.A]
  exact ⟨h1, h2, h3, h4, h5, h6, h7⟩
theorem LnOk.to {X' : Cx} (h : LnOk E X) (s : SameW X X') : LnOk E X' := by
  refine ⟨fun c f q => ?_⟩
  rw [s.K, s.prog, s.w, s.mg, s.base, s.A]
  exact h.ex c f q
theorem IsiOk.to {X' : Cx} {t : Ty} {u : Value} (h : IsiOk E X t u) (s : SameW X X') : IsiOk E X' t u := ⟨fun d q => by rw [s.K]; exact h.prim d q, fun c fs q => by rw [s.K]; exact h.own c fs q⟩
theorem SameW.trans {X1 X2 X3 : Cx} (a : SameW X1 X2) (b : SameW X2 X3) : SameW X1 X3 := ⟨b.prog.trans a.prog, b.w.trans a.w, b.K.trans a.K, b.mg.trans a.mg, b.base.trans a.base, b.A.trans a.A⟩
theorem Clb.to {X' : Cx} {g : Addr} {f : Nat} (h : Clb E X g f) (s : SameW X X') : Clb E X' g f := fun X2 W2 s2 t i => h X2 W2 (s.trans s2) t i
theorem Cs.blk (h : Cs E tb C X W) (s : Shared) (H : Hp) (scope : Scope) (cl : List (Str × Addr)) (L : Addr) (fp : List Addr) : Cs E tb (blkSc C scope) (X.blk s H scope (compEnvC scope cl L X.env) fp) noW := by
  have sw : SameW X (X.blk s H scope (compEnvC scope cl L X.env) fp) := ⟨rfl, rfl, rfl, rfl, rfl, rfl⟩
  refine ⟨h.hK, h.calm, h.nd, h.hN, ?_, rfl, h.room, LamX.takes0, fun _ _ _ _ _ z => z.elim, fun x f q => ?_, fun n i q => ?_, fun x c q => ⟨(h.cls x c q).1, (h.cls x c q).2.to sw⟩, fun x t T q => (h.tys x t T q).to sw, h.cst, h.nob, h.nnm, h.ln.to sw, fun z => nomatch z⟩
  · show relS scope X.env.scope = relS scope C.sc
    rw [h.hsc]
  · obtain ⟨e, g, h1, h2, h3⟩ := h.fns x f q
    exact ⟨e, g, h1, h2, h3.to sw⟩
  · obtain ⟨h1, h2⟩ := h.ats n i q
    refine ⟨h1.to sw, fun c f q' => ?_⟩
    obtain ⟨a1, a2, a3, g, a4, a5⟩ := h2 c f q'
    exact ⟨a1, a2, a3, g, a4, a5.to sw⟩
theorem Cs.calls (h : Cs E tb C X W) {g : Addr} {f : Nat} (c : Clb E X g f) : CallsF E X W g f := c X W ⟨rfl, rfl, rfl, rfl, rfl, rfl⟩ h.tk h.ind
/-! ### names -/
theorem ixOf_get : ∀ {N : List Str} {x : Str} {i : Nat}, ixOf N x = some i → N[i]? = some x
  | y :: r, x, i, h => by
    unfold ixOf at h
    split at h
    · rename_i e; cases h; rw [e]; rfl
    · obtain ⟨j, h1, rfl⟩ := Option.map_eq_some_iff.mp h
      have z := ixOf_get h1
      simpa using z
theorem vis_of (h : Cs E tb C X W) {x : Str} (q : visB C.sc x = true) : Vis X.env.scope x := by
  unfold visB at q
  unfold Vis
  rw [h.hsc]
  split at q
  · exact .inl (by assumption)
  · exact .inr (.inl (by assumption))
  · exact .inr (.inr (by assumption))
  · cases q
theorem ok_of {x : Str} (q : okNm x = true) : (x == ("__debug__" : Str)) = false ∧ (x == ("__classdict__" : Str)) = false := by
  unfold okNm at q
  simpa using q
theorem gl_of (h : Cs E tb C X W) {x : Str} (q : glB C.sc x = true) : Gl X x ∧ (x == ("__debug__" : Str)) = false := by
  unfold glB at q
  split at q
  · rename_i e
    refine ⟨?_, by simpa using q⟩
    show X.env.scope.names.lookup x = some .globalImplicit
    rw [h.hsc]
    exact e
  · cases q
theorem nm_of (h : Cs E tb C X W) {x : Str} (q : nobB tb x = true) : x ≠ "__name__" := fun e => by rw [e, h.nnm] at q; cases q
theorem star1 {a : Expr} {es : List Expr} {env : Env} (h : isStarE a = false) : starEach (a :: es) env = (false, eval a env) :: starEach es env := by
  cases a <;> first | rfl | cases h
theorem star_any {pos : Pos} {env : Env} : ∀ {es : List Expr}, es.any isStarE = false → (backTo pos (starEach es env)).any (·.1) = false
  | [], _ => rfl
  | e :: es, h => by
    have h1 : isStarE e = false ∧ es.any isStarE = false := by simpa using h
    rw [star1 h1.1]
    show (false || (backTo pos (starEach es env)).any (·.1)) = false
    rw [star_any h1.2]
    rfl
theorem valE_true {e : Expr} {env : Env} (h : valE e = true) : ∀ whole, isTrue e env whole = (do let v ← whole; standAt e.pos; holding [v] (truthy v)) := by
  cases e <;> first | (intro _; rfl) | cases h
theorem base_of {a : Expr} {f : Str} {env : Env} {t : Sem Value} (h : isCallE a = false) : attributeBase a f env t = t := by
  cases a <;> first | rfl | cases h
theorem set_marks {op : CmpOp} {b : Expr} (h : isSetE b = false) : behindInMarks op b = false := by
  cases b <;> first | rfl | cases h
theorem fold_set {e : Expr} {env : Env} (h : isSetE e = false) : ∀ x, foldedSetIterable e env x = pure x := by
  cases e <;> first | (intro _; rfl) | cases h
theorem plain_ix {b : Expr} (h : isSliceE b = false) : PlainIx b := by
  cases b <;> first | (intro _ _; rfl) | cases h
theorem pe_bool1 {a : Expr} {op : BoolOp} {pos : Pos} {t : TE} (h : PE X a t) : PE X (.BoolOp op [a] pos) t := ⟨fun pins s σ H Q I q => h.run pins s σ H Q I q⟩
theorem co_of {op : CmpOp} {b : Expr} {o : Co} (h : coOf op b = some o) : cmpOf o = op := by
  cases op <;> cases h <;> rfl
theorem bo_of {op : Operator} {o : Bo} (h : boOf op = some o) : opOf o = op := by
  cases op <;> cases h <;> rfl
theorem m_of {X : Cx} {a b : Expr} {f : Str} {apos pos : Pos} (h1 : isCallE a = false) (h2 : isStarE b = false) (hl : apos.endLine = pos.line) : M1 X a f apos b pos where
  base := base_of h1
  few := by rw [star1 h2]; rfl
  line := by simp [hl]
  trees := by rw [star1 h2]; rfl
/-! ### built-in functions -/
theorem bf_ok (h : Cs E tb C X W) {x : Str} {n : Nat} {f : Bf} {k : Fk} (e : bfOf x n = some (f, k)) : match k with
    | .fn id => bootBuiltins x = some (.builtin id) ∧ CallR X (.builtin id) (rBltE E f)
    | .ty id => bootBuiltins x = some (.type id) ∧ CallR X (.type id) (rBltE E f) := by
  unfold bfOf at e
  split at e
  · split at e
    · rename_i q; cases e; subst q; exact ⟨boot_len, blt_lenE h.hK h.ln⟩
    · split at e
      · rename_i q; cases e; subst q; exact ⟨boot_abs, blt_of h.hK blt_abs⟩
      · split at e
        · rename_i q; cases e; subst q; exact ⟨boot_int, blt_of h.hK blt_int⟩
        · split at e
          · rename_i q; cases e; subst q; exact ⟨boot_all, blt_of h.hK (blt_all h.calm)⟩
          · split at e
            · rename_i q; cases e; subst q; exact ⟨boot_any, blt_of h.hK (blt_any h.calm)⟩
            · split at e
              · rename_i q; cases e; subst q; exact ⟨boot_sum, blt_of h.hK (blt_sum h.calm)⟩
              · split at e
                · rename_i q; cases e; subst q; exact ⟨boot_sorted, blt_of h.hK blt_sorted⟩
                · split at e
                  · rename_i q; cases e; subst q; exact ⟨boot_tuple, blt_of h.hK blt_tuple⟩
                  · split at e
                    · rename_i q; cases e; subst q; exact ⟨boot_list, blt_of h.hK blt_list⟩
                    · cases e
  · split at e
    · rename_i q; cases e; subst q; exact ⟨boot_min, blt_of h.hK (blt_min2 h.calm)⟩
    · split at e
      · rename_i q; cases e; subst q; exact ⟨boot_max, blt_of h.hK (blt_max2 h.calm)⟩
      · cases e
  · cases e
end
end Z

/-! Zo: the translation is right (expressions), the induction. -/
namespace Z
open PySem PySem.Spec PyProof.Rows L2
section
variable {E : En} {tb : Tb}
/-! ### targets -/
theorem cGn_ok {C : Sc} {X : Cx} {W : WX} (h : Cs E tb C X W) {e : Expr} {t : Tg} (q : cGn C e = some t) : PG X e (gOf E.K t) ∧ isStarE e = false := by
  cases e with
  | Name x p =>
    have q : (if locB C.sc x && (C.fnb x || isLoc C.sc x) then (ixOf C.N x).map Tg.nm else none) = some t := q
    split at q
    · rename_i hc
      obtain ⟨c1, c2⟩ := Bool.and_eq_true_iff.mp hc
      obtain ⟨i, h1, rfl⟩ := Option.map_eq_some_iff.mp q
      have hl : L2.Loc X.env.scope x := by
        unfold locB at c1
        unfold L2.Loc
        rw [h.hsc]
        split at c1
        · exact .inl (by assumption)
        · exact .inr (by assumption)
        · cases c1
      refine ⟨pg_name h.nd (by rw [h.hN]; exact ixOf_get h1) hl ?_, rfl⟩
      rcases Bool.or_eq_true_iff.mp c2 with z | z
      · exact .inl (by rw [h.hfn]; exact z)
      · refine .inr ?_
        unfold isLoc at z
        rw [h.hsc]
        split at z
        · assumption
        · cases z
    · cases q
  | _ => cases q
theorem asgE {es : List Expr} {env : Env} : (assignEach es env).length = es.length := by
  induction es with
  | nil => rfl
  | cons e es ih => cases e <;> (show (assignEach es env).length + 1 = es.length + 1; rw [ih])
theorem asg1 {e : Expr} {es : List Expr} {env : Env} (h : isStarE e = false) : assignEach (e :: es) env = (false, assign e env) :: assignEach es env := by
  cases e <;> first | rfl | cases h
theorem cG_both {C : Sc} {X : Cx} {W : WX} (h : Cs E tb C X W) : ∀ n : Nat, (∀ e t, cG C n e = some t → PG X e (gOf E.K t) ∧ isStarE e = false) ∧ ∀ es t, cGs C n es = some t → PGs X es (gsOf E.K t) ∧ es.length = tgN t ∧ (assignEach es X.env).findIdx? (·.1) = none
  | 0 => ⟨(fun e t q => by cases q), (fun es t q => by cases q)⟩
  | n + 1 => by
    obtain ⟨ih1, ih2⟩ := cG_both h n
    refine ⟨fun e t q => ?_, fun es t q => ?_⟩
    · cases e with
      | Tuple es k p =>
        obtain ⟨t', h1, rfl⟩ := Option.map_eq_some_iff.mp (show (cGs C n es).map .tp = some t from q)
        obtain ⟨a1, a2, a3⟩ := ih2 es t' h1
        refine ⟨?_, rfl⟩
        have := pg_tup (pos := p) (k := k) h.calm a1 (n := tgN t') (by rw [asgE]; exact a2) a3
        rw [h.hK] at this
        exact this
      | Name x p => exact cGn_ok h q
      | _ => cases q
    · cases es with
      | nil => cases q; exact ⟨pgs_nil, rfl, rfl⟩
      | cons e es =>
        have q' : (match cG C n e, cGs C n es with
          | some a, some r => if isStarE e then none else some (Tg.cons a r)
          | _, _ => none) = some t := q
        cases e1 : cG C n e with
        | none => rw [e1] at q'; cases q'
        | some a =>
          cases e2 : cGs C n es with
          | none => rw [e1, e2] at q'; cases q'
          | some r =>
            rw [e1, e2] at q'
            obtain ⟨b1, b2⟩ := ih1 e a e1
            obtain ⟨a1, a2, a3⟩ := ih2 es r e2
            rw [b2] at q'
            cases q'
            refine ⟨pgs_cons b1 a1 (by rw [asg1 b2]; rfl), by show es.length + 1 = tgN r + 1; rw [a2], ?_⟩
            rw [asg1 b2, List.findIdx?_cons]
            simp only [Bool.false_eq_true, if_false]
            rw [a3]
            rfl
theorem cG_ok {C : Sc} {X : Cx} {W : WX} (h : Cs E tb C X W) {n : Nat} {e : Expr} {t : Tg} (q : cG C n e = some t) : PG X e (gOf E.K t) := ((cG_both h n).1 e t q).1
/-- what the induction shows for n steps -/
structure Snd (E : En) (tb : Tb) (n : Nat) : Prop where
  sE : ∀ {C : Sc} {X : Cx} {W : WX}, Cs E tb C X W → ∀ m e ir, cE tb C n m e = some ir → PE X e (tE E W ir)
  sK : ∀ {C : Sc} {X : Cx} {W : WX}, Cs E tb C X W → ∀ f args kws pos ir, cK tb C n f args kws pos = some ir → PE X (.Call f args kws pos) (tE E W ir)
  sD : ∀ {C : Sc} {X : Cx} {W : WX}, Cs E tb C X W → ∀ o x args ap pos ir, isCallE o = false → ap.endLine = pos.line → PE X o (tE E W x) → cD tb C n x args = some ir → PE X (.Call (.Attribute o (Str.ofString "get") ap) args [] pos) (tE E W ir)
  sLC : ∀ {C : Sc} {X : Cx} {W : WX}, Cs E tb C X W → ∀ elt gs scope pos ir, cLC tb C n elt gs scope = some ir → PE X (.ListComp elt gs scope pos) (tE E W ir)
  sC : ∀ {C : Sc} {X : Cx} {W : WX}, Cs E tb C X W → ∀ x args ir p pos, cC tb C n x args = some ir → PE X (.Call (.Name x p) args [] pos) (tE E W ir)
  sB : ∀ {C : Sc} {X : Cx} {W : WX}, Cs E tb C X W → ∀ x args ir p pos, glB C.sc x = true → nobB tb x = true → args.any isStarE = false → cB tb C n x args = some ir → PE X (.Call (.Name x p) args [] pos) (tE E W ir)
  sT : ∀ {C : Sc} {X : Cx} {W : WX}, Cs E tb C X W → ∀ e ir, cT tb C n e = some ir → PT X e (tT E W ir)
  sW : ∀ {C : Sc} {X : Cx} {W : WX}, Cs E tb C X W → ∀ op vs ir pos, cW tb C n op vs = some ir → PW X (.BoolOp op vs pos) (tT E W ir)
  sQ : ∀ {C : Sc} {X : Cx} {W : WX}, Cs E tb C X W → ∀ cs ir, cQ tb C n cs = some ir → PTs X cs (tT E W ir)
  sL : ∀ {C : Sc} {X : Cx} {W : WX}, Cs E tb C X W → ∀ m es l, cL tb C n m es = some l → PA X es (tL E W l)
  sA : ∀ {C : Sc} {X : Cx} {W : WX}, Cs E tb C X W → ∀ bs es l, cA tb C n bs es = some l → PA X es (tL E W l)
  sP : ∀ {C : Sc} {X : Cx} {W : WX}, Cs E tb C X W → ∀ ks vs ps pos, cP tb C n ks vs = some ps → PPs X pos ks vs (ps.map fun p => (tE E W p.1, tE E W p.2)) ∧ ks.all (·.isSome) = true ∧ ks.length = vs.length
  sO : ∀ {C : Sc} {X : Cx} {W : WX}, Cs E tb C X W → ∀ o ir, cO tb C n o = some ir → PO X o (tO E W ir)
  sI : ∀ {C : Sc} {X : Cx} {W : WX}, Cs E tb C X W → ∀ m tg e ir, cI tb C n m tg e = some ir → PI X tg e (tI E W ir) ∧ isSetE e = false
theorem snd0 : Snd E tb 0 where
  sE := fun _ _ _ _ q => by cases q
  sK := fun _ _ _ _ _ _ q => by cases q
  sD := fun _ _ _ _ _ _ _ _ _ _ q => by cases q
  sLC := fun _ _ _ _ _ _ q => by cases q
  sC := fun _ _ _ _ _ _ q => by cases q
  sB := fun _ _ _ _ _ _ _ _ _ q => by cases q
  sT := fun _ _ _ q => by cases q
  sW := fun _ _ _ _ _ q => by cases q
  sQ := fun _ _ _ q => by cases q
  sL := fun _ _ _ _ q => by cases q
  sA := fun _ _ _ _ q => by cases q
  sP := fun _ _ _ _ _ q => by cases q
  sO := fun _ _ _ q => by cases q
  sI := fun _ _ _ _ _ q => by cases q
section
variable {n : Nat} (S : Snd E tb n) {C : Sc} {X : Cx} {W : WX} (h : Cs E tb C X W)
include S h
theorem cmp1 {a b : Expr} {op : CmpOp} {x : Ex} (q : (match coOf op b, cE tb C n true a, cE tb C n true b with
      | some o, some x, some y => if isSetE b then none else some (Ex.cmp o x y)
      | _, _, _ => none) = some x) : ∃ o u v, op = cmpOf o ∧ x = .cmp o u v ∧ PE X a (tE E W u) ∧ PE X b (tE E W v) ∧ behindInMarks (cmpOf o) b = false := by
  cases e0 : coOf op b with
  | none => rw [e0] at q; cases q
  | some o =>
    cases e1 : cE tb C n true a with
    | none => rw [e0, e1] at q; cases q
    | some u =>
      cases e2 : cE tb C n true b with
      | none => rw [e0, e1, e2] at q; cases q
      | some v =>
        rw [e0, e1, e2] at q
        cases hs : isSetE b with
        | true => simp only [hs] at q; cases q
        | false =>
          simp only [hs] at q
          cases q
          exact ⟨o, u, v, (co_of e0).symm, rfl, S.sE h true a u e1, S.sE h true b v e2, set_marks hs⟩
theorem cmp2 {a b c : Expr} {op op2 : CmpOp} {x : Ex} (q : (match coOf op b, coOf op2 c, cE tb C n true a, cE tb C n true b, cE tb C n true c with
      | some o, some p, some x, some y, some z => if isSetE c then none else some (Ex.chn o p x y z)
      | _, _, _, _, _ => none) = some x) : ∃ o p u v w, op = cmpOf o ∧ op2 = cmpOf p ∧ x = .chn o p u v w ∧ PE X a (tE E W u) ∧ PE X b (tE E W v) ∧ PE X c (tE E W w) ∧ lastMarks [cmpOf o, cmpOf p] [b, c] = false := by
  cases e0 : coOf op b with
  | none => rw [e0] at q; cases q
  | some o =>
    cases e4 : coOf op2 c with
    | none => rw [e0, e4] at q; cases q
    | some p =>
      cases e1 : cE tb C n true a with
      | none => rw [e0, e4, e1] at q; cases q
      | some u =>
        cases e2 : cE tb C n true b with
        | none => rw [e0, e4, e1, e2] at q; cases q
        | some v =>
          cases e3 : cE tb C n true c with
          | none => rw [e0, e4, e1, e2, e3] at q; cases q
          | some w =>
            rw [e0, e4, e1, e2, e3] at q
            cases hs : isSetE c with
            | true => simp only [hs] at q; cases q
            | false =>
              simp only [hs] at q
              cases q
              exact ⟨o, p, u, v, w, (co_of e0).symm, (co_of e4).symm, rfl, S.sE h true a u e1, S.sE h true b v e2, S.sE h true c w e3, set_marks hs⟩
theorem step_T (e : Expr) (ir : Ex) (q : cT tb C (n + 1) e = some ir) : PT X e (tT E W ir) := by
  have val : ∀ e, valE e = true → (if valE e then (cE tb C n true e).map Ex.tv else none) = some ir → PT X e (tT E W ir) := fun e hv q => by
    rw [hv, if_pos rfl] at q
    obtain ⟨x, h1, rfl⟩ := Option.map_eq_some_iff.mp q
    exact s_tv (S.sE h true e x h1) (valE_true hv)
  cases e with
  | UnaryOp op a p =>
    cases op with
    | Not =>
      obtain ⟨x, h1, rfl⟩ := Option.map_eq_some_iff.mp (show (cT tb C n a).map Ex.tnt = some ir from q)
      exact s_tnt (S.sT h a x h1)
    | _ => cases q
  | BoolOp op vs p => exact (S.sW h op vs ir p q).pt
  | Compare a ops bs p =>
    have hu : X.A.units + 65 < cLine := by have := h.room.un; omega
    match ops, bs, q with
    | [op], [b], q =>
      have q' : ((match coOf op b, cE tb C n true a, cE tb C n true b with
        | some o, some x, some y => if isSetE b then none else some (Ex.cmp o x y)
        | _, _, _ => none).map Ex.tv) = some ir := by
        have q0 : (match coOf op b, cE tb C n true a, cE tb C n true b with
          | some o, some x, some y => if isSetE b then none else some (Ex.tv (.cmp o x y))
          | _, _, _ => none) = some ir := q
        revert q0
        cases coOf op b <;> cases cE tb C n true a <;> cases cE tb C n true b <;> cases isSetE b <;> exact id
      obtain ⟨x, h1, rfl⟩ := Option.map_eq_some_iff.mp q'
      obtain ⟨o, u, v, rfl, rfl, p1, p2, p3⟩ := cmp1 S h h1
      exact s_tcmp hu h.hK p1 p2 p3
    | [op, op2], [b, c], q =>
      have q' : ((match coOf op b, coOf op2 c, cE tb C n true a, cE tb C n true b, cE tb C n true c with
        | some o, some p, some x, some y, some z => if isSetE c then none else some (Ex.chn o p x y z)
        | _, _, _, _, _ => none).map Ex.tv) = some ir := by
        have q0 : (match coOf op b, coOf op2 c, cE tb C n true a, cE tb C n true b, cE tb C n true c with
          | some o, some p, some x, some y, some z => if isSetE c then none else some (Ex.tv (.chn o p x y z))
          | _, _, _, _, _ => none) = some ir := q
        revert q0
        cases coOf op b <;> cases coOf op2 c <;> cases cE tb C n true a <;> cases cE tb C n true b <;> cases cE tb C n true c <;> cases isSetE c <;> exact id
      obtain ⟨x, h1, rfl⟩ := Option.map_eq_some_iff.mp q'
      obtain ⟨o, o2, u, v, w, rfl, rfl, rfl, p1, p2, p3, p4⟩ := cmp2 S h h1
      exact s_tchn hu h.hK p1 p2 p3 p4
    | [], _, q => cases q
    | [_], [], q => cases q
    | [_], _ :: _ :: _, q => cases q
    | [_, _], [], q => cases q
    | [_, _], [_], q => cases q
    | [_, _], _ :: _ :: _ :: _, q => cases q
    | _ :: _ :: _ :: _, _, q => cases q
  | IfExp c a b p => cases q
  | _ => exact val _ rfl q
theorem step_W (op : BoolOp) (vs : List Expr) (ir : Ex) (pos : Pos) (q : cW tb C (n + 1) op vs = some ir) : PW X (.BoolOp op vs pos) (tT E W ir) := by
  match vs, q with
  | [a], q =>
    have q' : cT tb C n a = some ir := by cases op <;> exact q
    cases op with
    | And => exact s_tan1 (S.sT h a ir q')
    | Or => exact s_tor1 (S.sT h a ir q')
  | a :: b :: r, q =>
    cases op with
    | And =>
      have q' : (match cT tb C n a, cW tb C n .And (b :: r) with
        | some x, some y => some (Ex.tan x y)
        | _, _ => none) = some ir := q
      cases e1 : cT tb C n a with
      | none => rw [e1] at q'; cases q'
      | some x =>
        cases e2 : cW tb C n .And (b :: r) with
        | none => rw [e1, e2] at q'; cases q'
        | some y => rw [e1, e2] at q'; cases q'; exact s_tan (S.sT h a x e1) (S.sW h .And (b :: r) y pos e2)
    | Or =>
      have q' : (match cT tb C n a, cW tb C n .Or (b :: r) with
        | some x, some y => some (Ex.tor x y)
        | _, _ => none) = some ir := q
      cases e1 : cT tb C n a with
      | none => rw [e1] at q'; cases q'
      | some x =>
        cases e2 : cW tb C n .Or (b :: r) with
        | none => rw [e1, e2] at q'; cases q'
        | some y => rw [e1, e2] at q'; cases q'; exact s_tor (S.sT h a x e1) (S.sW h .Or (b :: r) y pos e2)
  | [], q => cases op <;> cases q
theorem step_Q (cs : List Expr) (ir : Ex) (q : cQ tb C (n + 1) cs = some ir) : PTs X cs (tT E W ir) := by
  match cs, q with
  | [], q =>
    cases q
    refine ⟨fun pins s σ H Q I hw => pts_nil.run pins s σ H Q I ?_⟩
    obtain ⟨st, P, r, k⟩ := hw
    exact k H (Sm.refl H)
  | [c], q => exact pts_one (S.sT h c ir q)
  | _ :: _ :: _, q => cases q
theorem step_L (m : Bool) (es : List Expr) (l : Ex) (q : cL tb C (n + 1) m es = some l) : PA X es (tL E W l) := by
  cases es with
  | nil => cases q; exact s_lnil
  | cons e es =>
    by_cases hs : isStarE e = true
    · cases e with
      | Starred a p =>
        have q' : (match cE tb C n true a, cL tb C n m es with
          | some x, some r => some (Ex.star x r)
          | _, _ => none) = some l := q
        cases e1 : cE tb C n true a with
        | none => rw [e1] at q'; cases q'
        | some x =>
          cases e2 : cL tb C n m es with
          | none => rw [e1, e2] at q'; cases q'
          | some r => rw [e1, e2] at q'; cases q'; exact s_lstar h.hK (S.sE h true a x e1) (S.sL h m es r e2)
      | _ => cases hs
    · have hs' : isStarE e = false := by simpa using hs
      have q' : (match cE tb C n m e, cL tb C n m es with
        | some x, some r => some (Ex.cons x r)
        | _, _ => none) = some l := by cases e <;> first | exact q | cases hs'
      cases e1 : cE tb C n m e with
      | none => rw [e1] at q'; cases q'
      | some x =>
        cases e2 : cL tb C n m es with
        | none => rw [e1, e2] at q'; cases q'
        | some r => rw [e1, e2] at q'; cases q'; exact s_lcons (S.sE h m e x e1) (S.sL h m es r e2) (star1 hs')
theorem step_A (bs : List Bool) (es : List Expr) (l : Ex) (q : cA tb C (n + 1) bs es = some l) : PA X es (tL E W l) := by
  match bs, es, q with
  | [], [], q => cases q; exact s_lnil
  | b :: bs, e :: es, q =>
    have q' : (match cE tb C n b e, cA tb C n bs es with
      | some x, some r => if isStarE e then none else some (Ex.cons x r)
      | _, _ => none) = some l := q
    cases e1 : cE tb C n b e with
    | none => rw [e1] at q'; cases q'
    | some x =>
      cases e2 : cA tb C n bs es with
      | none => rw [e1, e2] at q'; cases q'
      | some r =>
        rw [e1, e2] at q'
        cases hs : isStarE e with
        | true => rw [hs] at q'; cases q'
        | false => rw [hs] at q'; cases q'; exact s_lcons (S.sE h b e x e1) (S.sA h bs es r e2) (star1 hs)
  | [], _ :: _, q => cases q
  | _ :: _, [], q => cases q
theorem step_P (ks : List (Option Expr)) (vs : List Expr) (ps : List (Ex × Ex)) (pos : Pos) (q : cP tb C (n + 1) ks vs = some ps) : PPs X pos ks vs (ps.map fun p => (tE E W p.1, tE E W p.2)) ∧ ks.all (·.isSome) = true ∧ ks.length = vs.length := by
  match ks, vs, q with
  | [], [], q => cases q; exact ⟨pps_nil, rfl, rfl⟩
  | some k :: ks, v :: vs, q =>
    have q' : (match cE tb C n true k, cE tb C n false v, cP tb C n ks vs with
      | some x, some y, some r => some ((x, y) :: r)
      | _, _, _ => none) = some ps := q
    cases e1 : cE tb C n true k with
    | none => rw [e1] at q'; cases q'
    | some x =>
      cases e2 : cE tb C n false v with
      | none => rw [e1, e2] at q'; cases q'
      | some y =>
        cases e3 : cP tb C n ks vs with
        | none => rw [e1, e2, e3] at q'; cases q'
        | some r =>
          rw [e1, e2, e3] at q'
          cases q'
          obtain ⟨a1, a2, a3⟩ := S.sP h ks vs r pos e3
          exact ⟨pps_cons (S.sE h true k x e1) (S.sE h false v y e2) a1, by simpa using a2, by simp [a3]⟩
  | none :: _, _ :: _, q => cases q
  | [], _ :: _, q => cases q
  | none :: _, [], q => cases q
  | some _ :: _, [], q => cases q
theorem step_O (o : Option Expr) (ir : Ex) (q : cO tb C (n + 1) o = some ir) : PO X o (tO E W ir) := by
  cases o with
  | none => cases q; exact o_none
  | some e =>
    have q' : (match cE tb C n true e with
      | some x => if isNo x then none else some x
      | none => none) = some ir := q
    cases e1 : cE tb C n true e with
    | none => rw [e1] at q'; cases q'
    | some x =>
      rw [e1] at q'
      cases hs : isNo x with
      | true => simp only [hs] at q'; cases q'
      | false => simp only [hs] at q'; cases q'; exact o_some (S.sE h true e _ e1) hs
end
end
end Z

/-! Zp: the translation is right (expressions), the rest of the induction. -/
namespace Z
open PySem PySem.Spec PyProof.Rows L2
theorem ty_name {x : Str} {t : Ty} {T : String} (e : tyOf x = some (t, T)) : bootBuiltins x = some (.type T) := by
  unfold tyOf at e
  split at e
  · rename_i q; cases e; subst q; exact boot_int
  · split at e
    · rename_i q; cases e; subst q; exact boot_bool
    · split at e
      · rename_i q; cases e; subst q; exact boot_str
      · split at e
        · rename_i q; cases e; subst q; exact boot_tuple
        · split at e
          · rename_i q; cases e; subst q; exact boot_list
          · split at e
            · rename_i q; cases e; subst q; exact boot_dict
            · cases e
theorem lam_pat {ps : Arguments} {body : Expr} {scope : Scope} {x : Str} (q : lamPat ps body scope = some x) : ∃ pp p1 p2 p3 p4 p5 k1, ps = lamP x pp ∧ body = .Tuple [.Call (.Name "len" p1) [.Name x p2] [] p3, .Name x p4] k1 p5 ∧ okNm x = true ∧ scope.names.lookup x = some .local ∧ scope.names.lookup (Str.ofString "len") = some NameKind.globalImplicit ∧ FnScope [x] [x] scope := by
  unfold lamPat at q
  split at q
  · rename_i nm pp l p1 y p2 p3 z p4 k1 p5
    split at q
    · rename_i hh
      obtain ⟨rfl, rfl, rfl, h4, h5, h6, h7, h8, h9, h10⟩ := hh
      cases q
      refine ⟨pp, p1, p2, p3, p4, p5, k1, rfl, rfl, h4, h5, h6, h7, h8, h9, by simp, rfl, fun y hy => by rw [List.mem_singleton.mp hy]; exact .inl h5, fun y hy e => ?_⟩
      have z := List.all_eq_true.mp h10 y hy
      rw [e] at z
      cases z
    · cases q
  · cases q
theorem args_few {pos : Pos} {args : List Expr} {env : Env} (hs : args.all (fun e => !isStarE e) = true) (hl : args.length < 20) : methodCallForm (args.length + ([] : List Keyword).length) (backTo pos (starEach args env)) (backToKw pos (keywordEach [] env)) = true := by
  unfold methodCallForm
  have h1 : (backTo pos (starEach args env)).all (fun x => !x.1) = true := by
    have g : ∀ as : List Expr, as.all (fun e => !isStarE e) = true → (backTo pos (starEach as env)).all (fun x => !x.1) = true := fun as => by
      induction as with
      | nil => intro _; rfl
      | cons a as ih =>
        intro h
        obtain ⟨h1, h2⟩ := Bool.and_eq_true_iff.mp (show (!isStarE a && as.all fun e => !isStarE e) = true from h)
        rw [star1 (by simpa using h1)]
        exact ih h2
    exact g args hs
  rw [h1]
  show (true && true && decide (args.length + 0 + 0 < 30)) = true
  rw [decide_eq_true (by omega)]
  rfl
theorem meth_tree {o : Expr} {f : Str} {ap cp : Pos} {args : List Expr} {env : Env} (h1 : isCallE o = false) (hs : args.all (fun e => !isStarE e) = true) (hl : args.length < 20) (hp : ap.endLine = cp.line) :
    ∃ pl, eval (.Call (.Attribute o f ap) args [] cp) env = (do
      let ov ← eval o env
      standAt ap.atName
      let (f, first) ← holding [ov] (getMethod ov f pl)
      callWith cp f first (backTo cp (starEach args env)) (backToKw cp (keywordEach [] env))) := by
  refine ⟨do return (← importBound o env).getD true, ?_⟩
  rw [arm_eval_Call, base_of h1]
  unfold methodCall
  rw [args_few hs hl]
  unfold calleeOf methodCallPos
  simp only [hp, beq_self_eq_true, Bool.not_true, Bool.false_or, if_true, pure_bind]
section
variable {E : En} {tb : Tb} {n : Nat} (S : Snd E tb n) {C : Sc} {X : Cx} {W : WX} (h : Cs E tb C X W)
include S h
theorem star_one {a : Expr} (q : isStarE a = false) {env : Env} : starEach [a] env = [(false, eval a env)] := star1 q
theorem step_I (m : Bool) (tg e : Expr) (ir : Ex) (q : cI tb C (n + 1) m tg e = some ir) : PI X tg e (tI E W ir) ∧ isSetE e = false := by
  have seq : ∀ (e : Expr), isSetE e = false → (cE tb C n m e).map Ex.sSeq = some ir → PI X tg e (tI E W ir) ∧ isSetE e = false := fun e hs q => by
    obtain ⟨x, h1, rfl⟩ := Option.map_eq_some_iff.mp q
    exact ⟨s_iseq h.hK (S.sE h m e x h1), hs⟩
  have dflt : (∀ x p a r pos, e ≠ .Call (.Name x p) (a :: r) [] pos) → PI X tg e (tI E W ir) ∧ isSetE e = false := fun hne => by
    have q' : (if isSetE e then none else (cE tb C n m e).map Ex.sSeq) = some ir := by
      cases e with
      | Call f args kws pos =>
        cases f with
        | Name x p =>
          cases kws with
          | nil =>
            cases args with
            | nil => exact q
            | cons a r => exact absurd rfl (hne x p a r pos)
          | cons k ks =>
            cases args with
            | nil => exact q
            | cons a r =>
              cases r with
              | nil => exact q
              | cons b r => cases r <;> exact q
        | _ => exact q
      | _ => exact q
    cases hs : isSetE e with
    | true => rw [hs] at q'; cases q'
    | false => rw [hs] at q'; exact ⟨(seq e hs q').1, rfl⟩
  by_cases hc : ∃ x p a r pos, e = .Call (.Name x p) (a :: r) [] pos
  · obtain ⟨x, p, a, r, pos, rfl⟩ := hc
    match r, q with
    | [], q =>
      have q' : (if glB C.sc x && nobB tb x && decide (x = Str.ofString "range") && !isStarE a then (cE tb C n true a).map fun z => Ex.sRng (.k (.int 0)) z
        else if glB C.sc x && nobB tb x && decide (x = Str.ofString "enumerate") && !isStarE a && isTupE tg then (cE tb C n m a).map Ex.sEnum
        else (cE tb C n m (.Call (.Name x p) [a] [] pos)).map Ex.sSeq) = some ir := q
      split at q'
      · rename_i hh
        simp only [Bool.and_eq_true, decide_eq_true_eq, Bool.not_eq_true'] at hh
        obtain ⟨⟨⟨h1, h2⟩, rfl⟩, h4⟩ := hh
        obtain ⟨z, e1, rfl⟩ := Option.map_eq_some_iff.mp q'
        exact ⟨s_irng1 (gl_of h h1).1 (h.nob _ h2) (S.sE h true a z e1) (star1 h4), rfl⟩
      · split at q'
        · rename_i hh
          simp only [Bool.and_eq_true, decide_eq_true_eq, Bool.not_eq_true'] at hh
          obtain ⟨⟨⟨⟨h1, h2⟩, rfl⟩, h4⟩, h5⟩ := hh
          obtain ⟨z, e1, rfl⟩ := Option.map_eq_some_iff.mp q'
          cases tg with
          | Tuple es k tp => exact ⟨s_ienum h.hK (gl_of h h1).1 (h.nob _ h2) (S.sE h m a z e1) (star1 h4), rfl⟩
          | _ => cases h5
        · exact seq _ rfl q'
    | [b], q =>
      have q' : (if glB C.sc x && nobB tb x && decide (x = Str.ofString "range") && !isStarE a && !isStarE b then (match cE tb C n true a, cE tb C n true b with
          | some u, some v => some (Ex.sRng u v)
          | _, _ => none)
        else if glB C.sc x && nobB tb x && decide (x = Str.ofString "zip") && !isStarE a && !isStarE b && isTupE tg then (match cE tb C n m a, cE tb C n m b with
          | some u, some v => some (Ex.sZip u v)
          | _, _ => none)
        else (cE tb C n m (.Call (.Name x p) [a, b] [] pos)).map Ex.sSeq) = some ir := q
      split at q'
      · rename_i hh
        simp only [Bool.and_eq_true, decide_eq_true_eq, Bool.not_eq_true'] at hh
        obtain ⟨⟨⟨⟨h1, h2⟩, rfl⟩, h4⟩, h5⟩ := hh
        cases e1 : cE tb C n true a with
        | none => rw [e1] at q'; cases q'
        | some u =>
          cases e2 : cE tb C n true b with
          | none => rw [e1, e2] at q'; cases q'
          | some v =>
            rw [e1, e2] at q'
            cases q'
            exact ⟨s_irng2 (gl_of h h1).1 (h.nob _ h2) (S.sE h true a u e1) (S.sE h true b v e2) (by rw [star1 h4, star1 h5]; rfl) (star1 h5), rfl⟩
      · split at q'
        · rename_i hh
          simp only [Bool.and_eq_true, decide_eq_true_eq, Bool.not_eq_true'] at hh
          obtain ⟨⟨⟨⟨⟨h1, h2⟩, rfl⟩, h4⟩, h5⟩, h6⟩ := hh
          cases e1 : cE tb C n m a with
          | none => rw [e1] at q'; cases q'
          | some u =>
            cases e2 : cE tb C n m b with
            | none => rw [e1, e2] at q'; cases q'
            | some v =>
              rw [e1, e2] at q'
              cases q'
              cases tg with
              | Tuple es k tp => exact ⟨s_izip h.hK (gl_of h h1).1 (h.nob _ h2) (S.sE h m a u e1) (S.sE h m b v e2) (by rw [star1 h4, star1 h5]; rfl) (star1 h5) (star_any (by simp [h5])), rfl⟩
              | _ => cases h6
        · exact seq _ rfl q'
    | b :: c :: r, q =>
      have q' : (if isSetE (.Call (.Name x p) (a :: b :: c :: r) [] pos) then none else (cE tb C n m (.Call (.Name x p) (a :: b :: c :: r) [] pos)).map Ex.sSeq) = some ir := q
      exact seq _ rfl q'
  · exact dflt fun x p a r pos z => hc ⟨x, p, a, r, pos, z⟩
theorem step_B (x : Str) (args : List Expr) (ir : Ex) (p pos : Pos) (hg : glB C.sc x = true) (hn : nobB tb x = true) (hs : args.any isStarE = false) (q : cB tb C (n + 1) x args = some ir) : PE X (.Call (.Name x p) args [] pos) (tE E W ir) := by
  have q' : (match bfOf x args.length, cL tb C n true args with
    | some (f, _), some l => some (Ex.blt f l)
    | _, _ => none) = some ir := q
  cases e1 : bfOf x args.length with
  | none => rw [e1] at q'; cases q'
  | some fk =>
    obtain ⟨f, k⟩ := fk
    cases e2 : cL tb C n true args with
    | none => rw [e1, e2] at q'; cases q'
    | some l =>
      rw [e1, e2] at q'
      cases q'
      cases args with
      | nil => unfold bfOf at e1; cases e1
      | cons a r =>
        have hs' : isStarE a = false ∧ r.any isStarE = false := by simpa using hs
        have b := bf_ok h e1
        have pa := S.sL h true (a :: r) l e2
        cases k with
        | fn id => exact s_blt b.2 (gl_of h hg).1 (h.nob x hn) b.1 pa (nm_of h hn) (gl_of h hg).2 (star1 hs'.1) (star_any hs'.2)
        | ty id => exact s_bltT b.2 (gl_of h hg).1 (h.nob x hn) b.1 pa (nm_of h hn) (gl_of h hg).2 (star1 hs'.1) (star_any hs'.2)
theorem step_C (x : Str) (args : List Expr) (ir : Ex) (p pos : Pos) (q : cC tb C (n + 1) x args = some ir) : PE X (.Call (.Name x p) args [] pos) (tE E W ir) := by
  unfold cC at q
  split at q
  · cases q
  · rename_i h0
    have h0' : glB C.sc x = true ∧ args.any isStarE = false := by simpa using h0
    obtain ⟨hg, hs⟩ := h0'
    cases ef : tb.fns.lookup x with
    | some f =>
      simp only [ef] at q
      obtain ⟨efb, g, h1, h2, h3⟩ := h.fns x f ef
      cases e1 : cA tb C n (tb.fb f) args with
      | none => rw [e1] at q; cases q
      | some l =>
        simp only [e1] at q
        split at q
        · rename_i hok
          cases q
          cases args with
          | nil =>
            have el : l = .nil := by
              cases n with
              | zero => cases e1
              | succ k => cases hf : tb.fb f with
                | nil => rw [hf] at e1; cases e1; rfl
                | cons b bs => rw [hf] at e1; cases e1
            subst el
            exact s_call0 (h.calls h3) (gl_of h hg).1 h1 h2 (by rw [efb]; exact hok) (gl_of h hg).2
          | cons a r =>
            have hs' : isStarE a = false ∧ r.any isStarE = false := by simpa using hs
            exact s_call (h.calls h3) (gl_of h hg).1 h1 h2 (S.sA h _ _ l e1) (by rw [efb]; exact hok) (gl_of h hg).2 (star1 hs'.1) (star_any hs'.2)
        · cases q
    | none =>
      simp only [ef] at q
      split at q
      · cases q
      · rename_i hnb
        have hnb' : nobB tb x = true := by simpa using hnb
        have toB : cB tb C n x args = some ir → PE X (.Call (.Name x p) args [] pos) (tE E W ir) := S.sB h x args ir p pos hg hnb' hs
        split at q
        · rename_i y py a py2
          split at q
          · rename_i hh
            simp only [Bool.and_eq_true, decide_eq_true_eq, Bool.not_eq_true'] at hh
            obtain ⟨⟨⟨⟨rfl, rfl⟩, h3⟩, h4⟩, h5⟩ := hh
            obtain ⟨z, e1, rfl⟩ := Option.map_eq_some_iff.mp q
            exact s_sset h.hK h.calm (by have := h.room.un; omega) (gl_of h hg).1 (h.nob _ hnb') (gl_of h h3).1 (h.nob _ h4) (S.sE h true a z e1) (star1 h5)
          · split at q
            · rename_i hh
              simp only [Bool.and_eq_true, decide_eq_true_eq, Bool.not_eq_true'] at hh
              obtain ⟨⟨⟨⟨rfl, rfl⟩, h3⟩, h4⟩, h5⟩ := hh
              obtain ⟨z, e1, rfl⟩ := Option.map_eq_some_iff.mp q
              exact s_lrg1 h.calm (gl_of h hg).1 (h.nob _ hnb') (gl_of h h3).1 (h.nob _ h4) (S.sE h true a z e1) (star1 h5)
            · exact toB q
        · rename_i y py a b py2
          split at q
          · rename_i hh
            simp only [Bool.and_eq_true, decide_eq_true_eq, Bool.not_eq_true'] at hh
            obtain ⟨⟨⟨⟨⟨rfl, rfl⟩, h3⟩, h4⟩, h5⟩, h6⟩ := hh
            cases e1 : cE tb C n true a with
            | none => rw [e1] at q; cases q
            | some u =>
              cases e2 : cE tb C n true b with
              | none => rw [e1, e2] at q; cases q
              | some v =>
                rw [e1, e2] at q
                cases q
                exact s_lrg2 h.calm (gl_of h hg).1 (h.nob _ hnb') (gl_of h h3).1 (h.nob _ h4) (S.sE h true a u e1) (S.sE h true b v e2) (star1 h5) (star1 h6) (star_any (by simp [h6]))
          · exact toB q
        · rename_i a t pt
          split at q
          · rename_i hh
            have hx : x = Str.ofString "isinstance" := of_decide_eq_true hh
            subst hx
            have hs' : isStarE a = false := by
              have z : (isStarE a || (isStarE (.Name t pt) || false)) = false := hs
              exact (Bool.or_eq_false_iff.mp z).1
            cases e1 : cE tb C n true a with
            | none => rw [e1] at q; cases q
            | some u =>
              simp only [e1] at q
              split at q
              · rename_i ht
                cases ec : tb.cls.lookup t with
                | some c =>
                  simp only [ec] at q
                  cases q
                  obtain ⟨g1, g2⟩ := h.cls t c ec
                  exact s_isi h.hK g2 (.own _) (gl_of h hg).1 (h.nob _ hnb') (S.sE h true a u e1) (pe_glob (gl_of h ht).1 g1 rfl (gl_of h ht).2) (star1 hs') (star1 rfl) (star_any rfl)
                | none =>
                  simp only [ec] at q
                  split at q
                  · rename_i hn2
                    obtain ⟨pr, e2, rfl⟩ := Option.map_eq_some_iff.mp q
                    obtain ⟨ty, T⟩ := pr
                    exact s_isi h.hK (h.tys t ty T e2) (.ty T) (gl_of h hg).1 (h.nob _ hnb') (S.sE h true a u e1) (pe_bltn (gl_of h ht).1 (h.nob _ hn2) (ty_name e2) rfl (nm_of h hn2) (gl_of h ht).2) (star1 hs') (star1 rfl) (star_any rfl)
                  · cases q
              · cases q
          · exact toB q
        · exact toB q
end
end Z

/-! Zq: the translation is right (expressions), the last step. -/
namespace Z
open PySem PySem.Spec PyProof.Rows L2
theorem subL_of {a b : List Nat} (h : subL a b = true) : ∀ i, i ∈ a → i ∈ b := fun i hi => by
  have := List.all_eq_true.mp h i hi
  simpa using this
section
variable {E : En} {tb : Tb} {n : Nat} (S : Snd E tb n) {C : Sc} {X : Cx} {W : WX} (h : Cs E tb C X W)
include S h
theorem step_lc {elt tg iter : Expr} {ifs : List Expr} {scope : Scope} {pos : Pos} {s c e : Ex} {t : Tg} (e1 : cI tb C n true tg iter = some s) (e2 : cG (blkSc C scope) n tg = some t) (e3 : cE tb (blkSc C scope) n false elt = some e) (e4 : cQ tb (blkSc C scope) n ifs = some c)
    (hb : blkC C.N C.sc scope (ownOf C.N scope) = true) (h1 : subL (tgS t) ((ownOf C.N scope).map (·.2)) = true) (h2 : subL ((ownOf C.N scope).map (·.2)) (tgS t) = true) (h3 : isB e = false) : PE X (.ListComp elt [⟨tg, iter, ifs, 0⟩] scope pos) (tE E W (.lc e t s c)) := by
  obtain ⟨pi, hset⟩ := S.sI h true tg iter s e1
  refine PE.to (pe_lc (wi := tI E W s) (g := gOf E.K t) (tt := tT E noW c) (te := tE E noW e) (own := ownOf C.N scope) h.calm h.nd pi (by rw [h.hN, h.hsc]; exact blkOk_by hb)
    (fun s' H' L cl fp => cG_ok (h.blk s' H' scope cl L fp) e2) (fun s' H' L cl fp => S.sQ (h.blk s' H' scope cl L fp) ifs c e4) (fun s' H' L cl fp => S.sE (h.blk s' H' scope cl L fp) false elt e e3) (fold_set hset)) fun σ H Q hq => ?_
  obtain ⟨st, P, r, hq⟩ := hq
  exact lc_rd (subL_of h1) (subL_of h2) h3 (fun _ _ _ z => z) r hq
theorem step_E (m : Bool) (e : Expr) (ir : Ex) (q : cE tb C (n + 1) m e = some ir) : PE X e (tE E W ir) := by
  have hu : X.A.units + 65 < cLine := by have := h.room.un; omega
  have hu1 : X.A.units + 1 < cLine := by omega
  cases e with
  | Name x p =>
    have q : (if visB C.sc x && okNm x then (ixOf C.N x).map (fun i => if m then Ex.b i else .v i) else if glB C.sc x then (tb.cst.lookup x).map Ex.k else none) = some ir := q
    split at q
    · rename_i hc
      obtain ⟨c1, c2⟩ := Bool.and_eq_true_iff.mp hc
      obtain ⟨i, h1, rfl⟩ := Option.map_eq_some_iff.mp q
      have hN : X.N[i]? = some x := by rw [h.hN]; exact ixOf_get h1
      cases m with
      | true => exact s_b hN (vis_of h c1) (ok_of c2).1 (ok_of c2).2
      | false => exact s_v hN (vis_of h c1) (ok_of c2).1 (ok_of c2).2
    · split at q
      · rename_i hg
        obtain ⟨d, h1, rfl⟩ := Option.map_eq_some_iff.mp q
        obtain ⟨v, u, g1, g2, g3⟩ := h.cst x d h1
        exact s_k (pe_glob (gl_of h hg).1 g1 g2 (gl_of h hg).2) g3
      · cases q
  | Constant c k p =>
    cases c with
    | int i => cases q; exact s_k pe_int fun _ _ => .int i
    | none => cases q; exact s_k pe_non fun _ _ => .non
    | bool b => cases q; exact s_k pe_bl fun _ _ => .bl b
    | str z => cases q; exact s_k pe_str fun _ _ => .str z
    | _ => cases q
  | BinOp a op b p =>
    have q : (match boOf op, cE tb C n true a, cE tb C n true b with
      | some o, some x, some y => some (Ex.bin o x y)
      | _, _, _ => none) = some ir := q
    cases e0 : boOf op with
    | none => rw [e0] at q; cases q
    | some o =>
      cases e1 : cE tb C n true a with
      | none => rw [e0, e1] at q; cases q
      | some x =>
        cases e2 : cE tb C n true b with
        | none => rw [e0, e1, e2] at q; cases q
        | some y =>
          rw [e0, e1, e2] at q
          cases q
          rw [← bo_of e0]
          exact s_bin h.hK (S.sE h true a x e1) (S.sE h true b y e2)
  | UnaryOp op a p =>
    cases op with
    | USub =>
      obtain ⟨x, h1, rfl⟩ := Option.map_eq_some_iff.mp (show (cE tb C n true a).map Ex.neg = some ir from q)
      exact s_neg (S.sE h true a x h1)
    | Not =>
      obtain ⟨x, h1, rfl⟩ := Option.map_eq_some_iff.mp (show (cE tb C n true a).map Ex.nt = some ir from q)
      exact s_nt (S.sE h true a x h1)
    | _ => cases q
  | BoolOp op vs p =>
    match vs, q with
    | [], q => cases op <;> cases q
    | [a], q =>
      have q : (if m then none else cE tb C n false a) = some ir := by cases op <;> exact q
      cases m with
      | true => cases q
      | false => exact pe_bool1 (S.sE h false a ir q)
    | a :: b :: r, q =>
      cases op with
      | And =>
        have q : (match cE tb C n true a, cE tb C n false (.BoolOp .And (b :: r) p) with
          | some x, some y => if isB y then none else some (Ex.an x y)
          | _, _ => none) = some ir := q
        cases e1 : cE tb C n true a with
        | none => rw [e1] at q; cases q
        | some x =>
          cases e2 : cE tb C n false (.BoolOp .And (b :: r) p) with
          | none => rw [e1, e2] at q; cases q
          | some y =>
            rw [e1, e2] at q
            cases hy : isB y with
            | true => simp only [hy] at q; cases q
            | false => simp only [hy] at q; cases q; exact s_an (S.sE h true a x e1) (S.sE h false _ y e2) hy
      | Or =>
        have q : (match cE tb C n true a, cE tb C n false (.BoolOp .Or (b :: r) p) with
          | some x, some y => if isB y then none else some (Ex.orr x y)
          | _, _ => none) = some ir := q
        cases e1 : cE tb C n true a with
        | none => rw [e1] at q; cases q
        | some x =>
          cases e2 : cE tb C n false (.BoolOp .Or (b :: r) p) with
          | none => rw [e1, e2] at q; cases q
          | some y =>
            rw [e1, e2] at q
            cases hy : isB y with
            | true => simp only [hy] at q; cases q
            | false => simp only [hy] at q; cases q; exact s_orr (S.sE h true a x e1) (S.sE h false _ y e2) hy
  | IfExp c a b p =>
    have q : (match cT tb C n c, cE tb C n false a, cE tb C n false b with
      | some z, some x, some y => if isB x || isB y then none else some (Ex.ite z x y)
      | _, _, _ => none) = some ir := q
    cases e0 : cT tb C n c with
    | none => rw [e0] at q; cases q
    | some z =>
      cases e1 : cE tb C n false a with
      | none => rw [e0, e1] at q; cases q
      | some x =>
        cases e2 : cE tb C n false b with
        | none => rw [e0, e1, e2] at q; cases q
        | some y =>
          rw [e0, e1, e2] at q
          cases hx : isB x with
          | true => simp only [hx] at q; cases q
          | false =>
            cases hy : isB y with
            | true => simp only [hx, hy] at q; cases q
            | false => simp only [hx, hy] at q; cases q; exact s_ite (S.sT h c z e0) (S.sE h false a x e1) (S.sE h false b y e2) hx hy
  | Compare a ops bs p =>
    match ops, bs, q with
    | [op], [b], q =>
      obtain ⟨o, u, v, rfl, rfl, p1, p2, p3⟩ := cmp1 S h q
      exact s_cmp hu h.hK p1 p2 p3
    | [op, op2], [b, c], q =>
      obtain ⟨o, o2, u, v, w, rfl, rfl, rfl, p1, p2, p3, p4⟩ := cmp2 S h q
      exact s_chn hu h.hK p1 p2 p3 p4
    | [], _, q => cases q
    | [_], [], q => cases q
    | [_], _ :: _ :: _, q => cases q
    | [_, _], [], q => cases q
    | [_, _], [_], q => cases q
    | [_, _], _ :: _ :: _ :: _, q => cases q
    | _ :: _ :: _ :: _, _, q => cases q
  | Tuple es k p =>
    have q : (match cL tb C n false es with
      | some l => if nbL l then some (Ex.tup l) else none
      | none => none) = some ir := q
    cases e1 : cL tb C n false es with
    | none => rw [e1] at q; cases q
    | some l =>
      simp only [e1] at q
      split at q
      · rename_i hn; cases q; exact s_tup (S.sL h false es l e1) hn
      · cases q
  | List es p =>
    have q : (match cL tb C n false es with
      | some l => if nbL l then some (Ex.lst l) else none
      | none => none) = some ir := q
    cases e1 : cL tb C n false es with
    | none => rw [e1] at q; cases q
    | some l =>
      simp only [e1] at q
      split at q
      · rename_i hn; cases q; exact s_lst (S.sL h false es l e1) hn
      · cases q
  | Dict ks vs p =>
    match ks, vs, q with
    | [], [], q => cases q; exact s_dnew
    | k :: ks, v :: vs, q =>
      have q : (match cP tb C n (k :: ks) (v :: vs) with
        | some ps => if prsOk ps && decide ((k :: ks).length ≤ 15) then some (Ex.dct (prs ps)) else none
        | none => none) = some ir := q
      cases e1 : cP tb C n (k :: ks) (v :: vs) with
      | none => rw [e1] at q; cases q
      | some ps =>
        simp only [e1] at q
        split at q
        · rename_i hn
          obtain ⟨n1, n2⟩ := Bool.and_eq_true_iff.mp hn
          cases q
          obtain ⟨a1, a2, a3⟩ := S.sP h (k :: ks) (v :: vs) ps p e1
          exact s_disp n1 a1 a2 a3 (fun z => nomatch z) (of_decide_eq_true n2)
        · cases q
    | [], _ :: _, q => cases q
    | _ :: _, [], q => cases q
  | Subscript a b p =>
    by_cases hb : ∃ lo hi sp, b = .Slice lo hi none sp
    · obtain ⟨lo, hi, sp, rfl⟩ := hb
      have q : (match cE tb C n true a, cO tb C n lo, cO tb C n hi with
        | some x, some y, some z => some (Ex.sl x y z)
        | _, _, _ => none) = some ir := q
      cases e1 : cE tb C n true a with
      | none => rw [e1] at q; cases q
      | some x =>
        cases e2 : cO tb C n lo with
        | none => rw [e1, e2] at q; cases q
        | some y =>
          cases e3 : cO tb C n hi with
          | none => rw [e1, e2, e3] at q; cases q
          | some z => rw [e1, e2, e3] at q; cases q; exact s_sl h.hK (S.sE h true a x e1) (S.sO h lo y e2) (S.sO h hi z e3)
    · have q : (match cE tb C n true a, cE tb C n true b with
        | some x, some y => if isSliceE b then none else some (Ex.idx x y)
        | _, _ => none) = some ir := by
        cases b with
        | Slice lo hi st sp =>
          cases st with
          | none => exact absurd ⟨lo, hi, sp, rfl⟩ hb
          | some st => exact q
        | _ => exact q
      cases e1 : cE tb C n true a with
      | none => rw [e1] at q; cases q
      | some x =>
        cases e2 : cE tb C n true b with
        | none => rw [e1, e2] at q; cases q
        | some y =>
          rw [e1, e2] at q
          cases hs : isSliceE b with
          | true => simp only [hs] at q; cases q
          | false => simp only [hs] at q; cases q; exact s_idx hu1 h.hK (S.sE h true a x e1) (S.sE h true b y e2) (plain_ix hs)
  | Attribute a f p =>
    have q : (match cE tb C n true a, tb.ats.lookup f with
      | some x, some i => if isCallE a then none else some (Ex.att x i)
      | _, _ => none) = some ir := q
    cases e1 : cE tb C n true a with
    | none => rw [e1] at q; cases q
    | some x =>
      cases e2 : tb.ats.lookup f with
      | none => rw [e1, e2] at q; cases q
      | some i =>
        rw [e1, e2] at q
        cases hs : isCallE a with
        | true => simp only [hs] at q; cases q
        | false => simp only [hs] at q; cases q; exact s_att (h.ats f i e2).1 (S.sE h true a x e1) (base_of hs)
  | ListComp elt gs scope p => exact S.sLC h elt gs scope p ir q
  | Call f args kws p => exact S.sK h f args kws p ir q
  | _ => cases q
theorem step_LC (elt : Expr) (gs : List Comprehension) (scope : Scope) (p : Pos) (ir : Ex) (q : cLC tb C (n + 1) elt gs scope = some ir) : PE X (.ListComp elt gs scope p) (tE E W ir) := by
  match gs, q with
  | [⟨tg, iter, ifs, k⟩], q =>
    have q2 : (if k = 0 then (match cI tb C n true tg iter, cG (blkSc C scope) n tg, cE tb (blkSc C scope) n false elt, cQ tb (blkSc C scope) n ifs with
      | some s, some t, some e, some c => if blkC C.N C.sc scope (ownOf C.N scope) && subL (tgS t) ((ownOf C.N scope).map (·.2)) && subL ((ownOf C.N scope).map (·.2)) (tgS t) && !isB e then some (Ex.lc e t s c) else none
      | _, _, _, _ => none) else none) = some ir := q
    split at q2
    · rename_i hk
      subst hk
      cases e1 : cI tb C n true tg iter with
      | none => rw [e1] at q2; cases q2
      | some s =>
        cases e2 : cG (blkSc C scope) n tg with
        | none => rw [e1, e2] at q2; cases q2
        | some t =>
          cases e3 : cE tb (blkSc C scope) n false elt with
          | none => rw [e1, e2, e3] at q2; cases q2
          | some e =>
            cases e4 : cQ tb (blkSc C scope) n ifs with
            | none => rw [e1, e2, e3, e4] at q2; cases q2
            | some c =>
              rw [e1, e2, e3, e4] at q2
              simp only at q2
              split at q2
              · rename_i hh
                simp only [Bool.and_eq_true, Bool.not_eq_true'] at hh
                cases q2
                exact step_lc S h e1 e2 e3 e4 hh.1.1.1 hh.1.1.2 hh.1.2 hh.2
              · cases q2
    · cases q2
  | [], q => cases q
  | _ :: _ :: _, q => cases q
theorem step_D (o : Expr) (x : Ex) (args : List Expr) (ap pos : Pos) (ir : Ex) (ho : isCallE o = false) (hl : ap.endLine = pos.line) (po : PE X o (tE E W x)) (q : cD tb C (n + 1) x args = some ir) : PE X (.Call (.Attribute o (Str.ofString "get") ap) args [] pos) (tE E W ir) := by
  have hu1 : X.A.units + 1 < cLine := by have := h.room.un; omega
  match args, q with
  | [k], q =>
    have q2 : (if isStarE k then none else (cE tb C n true k).map (Ex.dget x)) = some ir := q
    split at q2
    · cases q2
    · rename_i hs
      obtain ⟨y, e4, rfl⟩ := Option.map_eq_some_iff.mp q2
      exact s_dget hu1 h.hK po (S.sE h true k y e4) (m_of ho (by simpa using hs) hl)
  | [], q => cases q
  | _ :: _ :: _, q => cases q
theorem step_K (f : Expr) (args : List Expr) (kws : List Keyword) (pos : Pos) (ir : Ex) (q : cK tb C (n + 1) f args kws pos = some ir) : PE X (.Call f args kws pos) (tE E W ir) := by
  have hu1 : X.A.units + 1 < cLine := by have := h.room.un; omega
  cases f with
  | Name x p =>
    match args, kws, q with
    | args, [], q => exact S.sC h x args ir p pos q
    | [a], [⟨ka, kv, kp⟩], q =>
      have q2 : (if glB C.sc x && nobB tb x && decide (x = Str.ofString "sorted") && decide (ka = some (Str.ofString "key")) && C.lam && nobB tb (Str.ofString "len") && !isStarE a then (match kv with
        | .Lambda ps body scope _ => (match lamPat ps body scope, cE tb C n true a with
          | some _, some y => some (Ex.blt .slen (.cons y .nil))
          | _, _ => none)
        | _ => none) else none) = some ir := q
      split at q2
      · rename_i hh
        simp only [Bool.and_eq_true, decide_eq_true_eq, Bool.not_eq_true'] at hh
        obtain ⟨⟨⟨⟨⟨⟨g1, g2⟩, rfl⟩, rfl⟩, g5⟩, g6⟩, g7⟩ := hh
        cases kv with
        | Lambda ps body scope lp =>
          cases e1 : lamPat ps body scope with
          | none => simp only [e1] at q2; cases q2
          | some nm =>
            cases e2 : cE tb C n true a with
            | none => simp only [e1, e2] at q2; cases q2
            | some y =>
              simp only [e1, e2] at q2
              cases q2
              obtain ⟨pp, p1, p2, p3, p4, p5, k1, rfl, rfl, o1, o2, o3, o4⟩ := lam_pat e1
              exact s_slen (K0 := 1) h.hK (h.lam g5) h.room (gl_of h g1).1 (h.nob _ g2) (h.nob _ g6) (S.sE h true a y e2) (star1 g7) o4 o2 o3 (ok_of o1).1 (ok_of o1).2
        | _ => cases q2
      · cases q2
    | [], k :: ks, q => cases ks <;> cases (show (none : Option Ex) = some ir from q)
    | [_], _ :: _ :: _, q => cases (show (none : Option Ex) = some ir from q)
    | _ :: _ :: _, k :: ks, q => cases ks <;> cases (show (none : Option Ex) = some ir from q)
  | Attribute o f ap =>
    cases kws with
    | cons k ks => cases q
    | nil =>
      have q2 : (if isCallE o || !decide (ap.endLine = pos.line) then none else (match cE tb C n true o with
        | some x => (match tb.ats.lookup f with
          | some i => (match cL tb C n false args with
            | some l => if ((tb.mfs i).all fun g => match tb.fb g with
                | false :: bs => argOk bs l
                | _ => false) && decide (args.length < 20) && args.all (fun e => !isStarE e) then some (Ex.meth x i l) else none
            | none => none)
          | none => if decide (f = Str.ofString "get") then cD tb C n x args else none)
        | none => none)) = some ir := q
      split at q2
      · cases q2
      · rename_i h0
        have h0' : isCallE o = false ∧ ap.endLine = pos.line := by simpa using h0
        obtain ⟨ho, hl⟩ := h0'
        cases e1 : cE tb C n true o with
        | none => rw [e1] at q2; cases q2
        | some x =>
          simp only [e1] at q2
          cases e2 : tb.ats.lookup f with
          | some i =>
            simp only [e2] at q2
            cases e3 : cL tb C n false args with
            | none => simp only [e3] at q2; cases q2
            | some l =>
              simp only [e3] at q2
              split at q2
              · rename_i hh
                simp only [Bool.and_eq_true, decide_eq_true_eq] at hh
                obtain ⟨⟨m1, m2⟩, m3⟩ := hh
                cases q2
                have mt : MthOk E X W f i := ⟨fun c g hg => let ⟨_, _, a3, ad, a4, a5⟩ := (h.ats f i e2).2 c g hg; ⟨a3, ad, a4, h.calls a5⟩⟩
                have ma : mthArgs E i l := fun c g hg => by
                  obtain ⟨a1, a2, _⟩ := (h.ats f i e2).2 c g hg
                  have z := List.all_eq_true.mp m1 g a1
                  rw [a2]
                  revert z
                  cases tb.fb g with
                  | nil => intro z; cases z
                  | cons b bs =>
                    cases b with
                    | true => intro z; cases z
                    | false => intro z; exact ⟨bs, rfl, z⟩
                obtain ⟨pl, ht⟩ := meth_tree (f := f) (env := X.env) ho m3 m2 hl
                cases args with
                | nil =>
                  have el : l = .nil := by
                    cases n with
                    | zero => cases e3
                    | succ k => cases e3; rfl
                  subst el
                  exact s_meth0 mt ma (S.sE h true o x e1) ht
                | cons a r =>
                  obtain ⟨s1, s2⟩ := Bool.and_eq_true_iff.mp (show (!isStarE a && r.all fun e => !isStarE e) = true from m3)
                  have s3 : r.any isStarE = false := by
                    rw [List.any_eq_false]
                    intro z hz
                    have := List.all_eq_true.mp s2 z hz
                    simpa using this
                  exact s_meth mt ma (S.sE h true o x e1) (S.sL h false (a :: r) l e3) (star1 (by simpa using s1)) (star_any s3) ht
              · cases q2
          | none =>
            simp only [e2] at q2
            split at q2
            · rename_i hf
              have hf : f = Str.ofString "get" := of_decide_eq_true hf
              subst hf
              exact S.sD h o x args ap pos ir ho hl (S.sE h true o x e1) q2
            · cases q2
  | _ => cases kws <;> cases args <;> cases q
end
theorem snd_all {E : En} {tb : Tb} : ∀ n, Snd E tb n
  | 0 => snd0
  | n + 1 => by
    have S : Snd E tb n := snd_all n
    exact { sE := fun h => step_E S h, sK := fun h => step_K S h, sD := fun h => step_D S h, sLC := fun h => step_LC S h, sC := fun h => step_C S h, sB := fun h => step_B S h, sT := fun h => step_T S h, sW := fun h => step_W S h, sQ := fun h => step_Q S h, sL := fun h => step_L S h, sA := fun h => step_A S h, sP := fun h => step_P S h, sO := fun h => step_O S h, sI := fun h => step_I S h }
end Z

/-! Zr: statements, from the text to the small language. -/
namespace Z
open PySem PySem.Spec PyProof.Rows L2
/-- what a def's text needs besides: the slots of containers that it changes; before which lines they are changed no more -/
structure Du where
  own : List Nat
  frz : List (Nat × List Nat)
def isLcE : Expr → Bool
  | .ListComp _ _ _ _ => true
  | .SetComp _ _ _ _ => true
  | .DictComp _ _ _ _ _ => true
  | _ => false
def isFunK : ScopeKind → Bool
  | .function => true
  | _ => false
/-- how the stores of a, b = x, y go: in no order that can be told; from the left; from the right -/
def swC (sc : Scope) (ts vs : List Expr) : Option (Option (List Str)) :=
  if !(ts.length == 2 || ts.length == 3) || vs.length != ts.length || !isFunK sc.kind then some none else
  if vs.any (fun | .Starred .. => true | _ => false) then some none else
  let line := (ts.head?.map (·.pos.line)).getD 0
  let names := ts.filterMap fun
    | .Name id pos => if sc.names.lookup id == some .local && pos.line == line then some id else none
    | _ => none
  if names.length != ts.length || names.eraseDups.length != names.length then some none else
  if vs.all (foldedForSure 8) then some none else
  if vs.all (constantsAlone 8) then none else some (some names)
theorem sw_eq {env : Env} {ts vs : List Expr} {k k2 : Nat} {p p2 : Pos} {o : Option (List Str)} (hk : isFunK env.scope.kind = true ∨ isFunK env.scope.kind = false) (hf : env.blockKind = env.scope.kind) (h : swC env.scope ts vs = some o) : swappedStores [.Tuple ts k p] (.Tuple vs k2 p2) env = pure o := by
  have hb : (env.blockKind != .function) = !isFunK env.scope.kind := by rw [hf]; cases env.scope.kind <;> rfl
  have hkd : ∀ id, env.kindOf id = env.scope.names.lookup id := fun _ => rfl
  unfold swC at h
  unfold swappedStores
  simp only [hb, hkd]
  split at h
  · rename_i c; cases h; exact (if_pos c).trans rfl
  · rename_i c
    refine (if_neg c).trans ?_
    split at h
    · rename_i c2; cases h; exact (if_pos c2).trans rfl
    · rename_i c2
      refine (if_neg c2).trans ?_
      simp only at h
      split at h
      · rename_i c3; cases h; exact (if_pos c3).trans rfl
      · rename_i c3
        refine (if_neg c3).trans ?_
        split at h
        · rename_i c4; cases h; exact (if_pos c4).trans rfl
        · rename_i c4
          refine (if_neg c4).trans ?_
          split at h
          · cases h
          · rename_i c5; cases h; exact (if_neg c5).trans rfl
theorem fun_block {env : Env} (h : isFunK env.scope.kind = true) : env.blockKind = env.scope.kind := by
  unfold Env.blockKind
  cases e : env.scope.kind <;> first | rfl | (rw [e] at h; cases h)
theorem sw_none {env : Env} {tg v : Expr} (h : ∀ ts k p vs k2 p2, tg = .Tuple ts k p → v = .Tuple vs k2 p2 → False) (h2 : ∀ ts p, tg ≠ .List ts p) : swappedStores [tg] v env = pure none := by
  cases tg with
  | Tuple ts k p =>
    cases v with
    | Tuple vs k2 p2 => exact (h ts k p vs k2 p2 rfl rfl).elim
    | _ => rfl
  | List ts p => exact absurd rfl (h2 ts p)
  | _ => rfl
/-- x = [..] on one line -/
def swL (sc : Scope) (y : Str) (py : Pos) (scope : Scope) (lp : Pos) : Bool := isFunK sc.kind && isLoc sc y && (py.line == lp.line) && !(scope.names.any fun (n, k) => n == y && (k == .local || k == .cell))
theorem swL_eq {env : Env} {elt : Expr} {gs : List Comprehension} {scope : Scope} {lp py : Pos} {y : Str} {l : Nat} (hf : isFunK env.scope.kind = true) : swapsWith (.ListComp elt gs scope lp) (some (.Name y py)) l env = pure (swL env.scope y py scope lp) := by
  have hk : env.blockKind = .function := by rw [fun_block hf]; cases e : env.scope.kind <;> first | rfl | (rw [e] at hf; cases hf)
  have hl : (env.kindOf y == some .local) = isLoc env.scope y := by
    show (env.scope.names.lookup y == some .local) = isLoc env.scope y
    unfold isLoc
    split
    · rename_i e; rw [e]; rfl
    · rename_i hne
      cases e : env.scope.names.lookup y with
      | none => rfl
      | some k =>
        cases k with
        | «local» => exact absurd e hne
        | _ => rfl
  unfold swapsWith swL
  simp only [hk, hl, hf, Expr.pos]
  rfl
theorem sw_plain {v : Expr} {tg : Option Expr} {l : Nat} {env : Env} (h : isLcE v = false) : swapsWith v tg l env = pure false := by
  cases v <;> first | rfl | cases h
theorem asg_one {tg : Expr} {env : Env} (h : isStarE tg = false) : (assignEach [tg] env).map (·.2) = [assign tg env] := by rw [asg1 h]; rfl
/-! ### forms -/
def mthPat : Expr → Option (Str × Str × List Expr)
  | .Call (.Attribute (.Name x _) f ap) args [] cp => if ap.endLine = cp.line then some (x, f, args) else none
  | _ => none
theorem mth_pat {e : Expr} {x f : Str} {args : List Expr} (h : mthPat e = some (x, f, args)) : ∃ xp ap cp, e = .Call (.Attribute (.Name x xp) f ap) args [] cp ∧ (ap.endLine == cp.line) = true := by
  unfold mthPat at h
  split at h
  · rename_i x' xp f' ap args' cp
    split at h
    · rename_i hl
      cases h
      exact ⟨xp, ap, cp, rfl, by simp [hl]⟩
    · cases h
  · cases h
def lineOf : Stmt → Nat
  | .Return _ p => p.line
  | .Assign _ _ p => p.line
  | .For _ _ _ _ p => p.line
  | .While _ _ _ p => p.line
  | .If _ _ _ p => p.line
  | .Expr _ p => p.line
  | _ => 0
def frzW : List Nat → Sx → Sx
  | [], j => j
  | i :: is, j => .seq (.frz i) (frzW is j)
def nmsOf (N : List Str) (own : List Nat) : List Expr → Ex → Option (List (Nat × Bool))
  | [], .nil => some []
  | .Name x _ :: r, .cons y q => match ixOf N x, nmsOf N own r q with
    | some i, some l => some ((i, own.contains i && isFr y) :: l)
    | _, _ => none
  | _, _ => none
section
variable (tb : Tb) (C : Sc) (U : Du)
/-- the slot of a container of our own -/
def ownIx (x : Str) : Option Nat := if visB C.sc x && okNm x then (match ixOf C.N x with
  | some i => if U.own.contains i then some i else none
  | none => none) else none
/-- an expression as a statement -/
def cX (n : Nat) (e : Expr) : Option Sx := match mthPat e with
  | some (x, f, [a]) => (match ownIx C U x with
    | some i => if isStarE a then none else (match cE tb C n false a with
      | some y => if f = Str.ofString "append" then some (.app i y) else if f = Str.ofString "extend" then some (.ext i y) else none
      | none => none)
    | none => (cE tb C n true e).map .drop)
  | _ => if isLcE e then none else (cE tb C n true e).map .drop
def popArg : List Expr → Option Ex
  | [] => some .nil
  | [.Constant (.int 0) _ _] => some (.cons (.k (.int 0)) .nil)
  | _ => none
/-- x = v -/
def cAn (n : Nat) (x : Str) (v : Expr) : Option Sx := if !isFunK C.sc.kind || !(locB C.sc x && (C.fnb x || isLoc C.sc x)) then none else (match ixOf C.N x, cE tb C n false v with
  | some i, some y => if U.own.contains i && isFr y then some (.asgO i y) else if isB y then none else some (.asg (.nm i) y)
  | _, _ => none)
/-- a, b = v -/
def cAt (n : Nat) (ts : List Expr) (tg v : Expr) : Option Sx := match v with
  | .Tuple vs _ _ => (match cL tb C n false vs with
    | some e => (match nmsOf C.N U.own ts e with
      | some l => if vs.any isStarE || !isFunK C.sc.kind then none else (match swC C.sc ts vs with
        | some none => (match cG C n tg with
          | some (.tp t) => if decide (l.length ≤ 1000000) then some (.par l e) else none
          | _ => none)
        | some (some _) => some (.par l e)
        | none => none)
      | none => none)
    | none => none)
  | v => if isLcE v then none else (match cG C n tg, cE tb C n false v with
    | some t, some y => if isB y then none else some (.asg t y)
    | _, _ => none)
def cAs (n : Nat) (tg v : Expr) : Option Sx := match mthPat v with
  | some (x, f, args) => (match ownIx C U x with
    | some i => if f = Str.ofString "pop" then (match popArg args, cG C n tg with
      | some l, some t => some (.pop t i l)
      | _, _ => none) else none
    | none => cAr n tg v)
  | none => cAr n tg v
where cAr (n : Nat) (tg v : Expr) : Option Sx := match tg with
  | .Name x _ => cAn tb C U n x v
  | .Tuple ts _ _ => cAt tb C U n ts tg v
  | .Subscript (.Name x _) k _ => (match ownIx C U x with
    | some i => if isLcE v then none else (match cE tb C n true k, cE tb C n false v with
      | some z, some y => some (.set i z y)
      | _, _ => none)
    | none => none)
  | .Attribute (.Name x _) f _ => if visB C.sc x && okNm x && !isLcE v then (match ixOf C.N x, tb.ats.lookup f, cE tb C n false v with
    | some i, some k, some y => some (.fld i k y)
    | _, _, _ => none) else none
  | _ => none
mutual
def cSt : Nat → Stmt → Option Sx
  | 0, _ => none
  | n + 1, s => match s with
    | .Pass _ => some .pass
    | .Break _ => some .brk
    | .Continue _ => some .cnt
    | .Return none _ => some .retN
    | .Return (some e) _ => match cE tb C n false e with
      | some x => if isB x then none else some (.ret x)
      | none => none
    | .Expr e _ => cX tb C U n e
    | .Assign [tg] v _ => cAs tb C U n tg v
    | .If c a b _ => match cT tb C n c, cSs n a, cSs n b with
      | some z, some i, some j => some (.iff z i j)
      | _, _, _ => none
    | .For tg it body [] _ => match cI tb C n false tg it, cG C n tg, cSs n body with
      | some s, some t, some i => if nbI s then some (.forr t s i) else none
      | _, _, _ => none
    | .While c body [] _ => match cT tb C n c, cSs n body with
      | some z, some i => some (.whil z i)
      | _, _ => none
    | .Raise _ _ _ => some .nev
    | _ => none
def cSs : Nat → List Stmt → Option Sx
  | 0, _ => none
  | _ + 1, [] => some .nil
  | n + 1, s :: ss => match cSt n s, cSs n ss with
    | some i, some j => some (frzW ((U.frz.lookup (lineOf s)).getD []) (.seq i j))
    | _, _ => none
end
end
end Z

/-! Zx: the translation of statements is right. -/
namespace Z
open PySem PySem.Spec PyProof.Rows L2
section
variable {E : En} {tb : Tb} {C : Sc} {U : Du} {X : Cx} {W : WX}
theorem lc_inv {n : Nat} {elt : Expr} {gs : List Comprehension} {scope : Scope} {ir : Ex} (q : cLC tb C n elt gs scope = some ir) : ∃ k tg iter ifs s t e c, n = k + 1 ∧ gs = [⟨tg, iter, ifs, 0⟩] ∧ cI tb C k true tg iter = some s ∧ cG (blkSc C scope) k tg = some t ∧ cE tb (blkSc C scope) k false elt = some e ∧ cQ tb (blkSc C scope) k ifs = some c ∧
    blkC C.N C.sc scope (ownOf C.N scope) = true ∧ subL (tgS t) ((ownOf C.N scope).map (·.2)) = true ∧ subL ((ownOf C.N scope).map (·.2)) (tgS t) = true ∧ isB e = false ∧ ir = .lc e t s c := by
  cases n with
  | zero => cases q
  | succ k =>
    match gs, q with
    | [⟨tg, iter, ifs, as⟩], q =>
      have q2 : (if as = 0 then (match cI tb C k true tg iter, cG (blkSc C scope) k tg, cE tb (blkSc C scope) k false elt, cQ tb (blkSc C scope) k ifs with
        | some s, some t, some e, some c => if blkC C.N C.sc scope (ownOf C.N scope) && subL (tgS t) ((ownOf C.N scope).map (·.2)) && subL ((ownOf C.N scope).map (·.2)) (tgS t) && !isB e then some (Ex.lc e t s c) else none
        | _, _, _, _ => none) else none) = some ir := q
      split at q2
      · rename_i hk
        subst hk
        cases e1 : cI tb C k true tg iter with
        | none => rw [e1] at q2; cases q2
        | some s =>
          cases e2 : cG (blkSc C scope) k tg with
          | none => rw [e1, e2] at q2; cases q2
          | some t =>
            cases e3 : cE tb (blkSc C scope) k false elt with
            | none => rw [e1, e2, e3] at q2; cases q2
            | some e =>
              cases e4 : cQ tb (blkSc C scope) k ifs with
              | none => rw [e1, e2, e3, e4] at q2; cases q2
              | some c =>
                rw [e1, e2, e3, e4] at q2
                simp only at q2
                split at q2
                · rename_i hh
                  simp only [Bool.and_eq_true, Bool.not_eq_true'] at hh
                  cases q2
                  exact ⟨k, tg, iter, ifs, s, t, e, c, rfl, rfl, e1, e2, e3, e4, hh.1.1.1, hh.1.1.2, hh.1.2, hh.2, rfl⟩
                · cases q2
      · cases q2
    | [], q => cases q
    | _ :: _ :: _, q => cases q
theorem loc_of (h : Cs E tb C X W) {x : Str} (q : locB C.sc x = true) : L2.Loc X.env.scope x := by
  unfold locB at q
  unfold L2.Loc
  rw [h.hsc]
  split at q
  · exact .inl (by assumption)
  · exact .inr (by assumption)
  · cases q
theorem isLoc_of (h : Cs E tb C X W) {x : Str} (q : isLoc C.sc x = true) : X.env.scope.names.lookup x = some .local := by
  unfold isLoc at q
  rw [h.hsc]
  split at q
  · assumption
  · cases q
theorem fn_of' (h : Cs E tb C X W) {x : Str} (q : (C.fnb x || isLoc C.sc x) = true) : X.fn x = true ∨ X.env.scope.names.lookup x = some .local := by
  rcases Bool.or_eq_true_iff.mp q with q | q
  · exact .inl (by rw [h.hfn]; exact q)
  · exact .inr (isLoc_of h q)
/-- x = v -/
theorem set_nm (h : Cs E tb C X W) {n i : Nat} {x : Str} {px pos : Pos} {v : Expr} {ir : Ex} (hk : isFunK C.sc.kind = true) (hl : locB C.sc x = true) (hf : (C.fnb x || isLoc C.sc x) = true) (hi : ixOf C.N x = some i) (q : cE tb C n false v = some ir) :
    ∃ T : TE, PS X (.Assign [.Name x px] v pos) (tAsg T (gName i)) ∧ ∀ σ H Q, tE E W ir σ H Q → T σ H Q := by
  have hN : X.N[i]? = some x := by rw [h.hN]; exact ixOf_get hi
  have hkX : isFunK X.env.scope.kind = true := by rw [h.hsc]; exact hk
  have pe := (snd_all n).sE h false v ir q
  have plain : isLcE v = false → ∃ T : TE, PS X (.Assign [.Name x px] v pos) (tAsg T (gName i)) ∧ ∀ σ H Q, tE E W ir σ H Q → T σ H Q := fun e =>
    ⟨_, ps_set h.nd hN (loc_of h hl) pe (sw_plain e) (fn_of' h hf), fun _ _ _ z => z⟩
  cases n with
  | zero => cases q
  | succ k =>
    cases v with
    | ListComp elt gs scope lp =>
      cases hs : swL X.env.scope x px scope lp with
      | false => exact ⟨_, ps_set h.nd hN (loc_of h hl) pe (by rw [swL_eq hkX, hs]) (fn_of' h hf), fun _ _ _ z => z⟩
      | true =>
        obtain ⟨j, tg, iter, ifs, s, t, e, c, rfl, rfl, e1, e2, e3, e4, b1, b2, b3, b4, rfl⟩ := lc_inv (show cLC tb C k elt gs scope = some ir from q)
        have S := snd_all (E := E) (tb := tb) j
        obtain ⟨pi, hset⟩ := S.sI h true tg iter s e1
        have hyl : X.env.scope.names.lookup x = some .local := by
          have z := hs
          unfold swL at z
          simp only [Bool.and_eq_true] at z
          rw [h.hsc] at z
          exact isLoc_of h z.1.1.2
        refine ⟨_, ps_setLc (wi := tI E W s) (g := gOf E.K t) (tt := tT E noW c) (te := tE E noW e) (own := ownOf C.N scope) h.calm h.nd hN hyl (by rw [swL_eq hkX, hs]) pi (by rw [h.hN, h.hsc]; exact blkOk_by b1)
          (fun s' H' L cl fp => cG_ok (h.blk s' H' scope cl L fp) e2) (fun s' H' L cl fp => S.sQ (h.blk s' H' scope cl L fp) ifs c e4) (fun s' H' L cl fp => S.sE (h.blk s' H' scope cl L fp) false elt e e3) (fold_set hset), fun σ H Q hq => ?_⟩
        obtain ⟨st, P, r, hq⟩ := hq
        exact lc_rd (subL_of b2) (subL_of b3) b4 (fun _ _ _ z => z) r hq
    | SetComp _ _ _ _ => cases q
    | DictComp _ _ _ _ _ => cases q
    | _ => exact plain rfl
theorem an_ok (h : Cs E tb C X W) {n : Nat} {x : Str} {px pos : Pos} {v : Expr} {ir : Sx} (q : cAn tb C U n x v = some ir) : PS X (.Assign [.Name x px] v pos) (tS E W ir) := by
  unfold cAn at q
  split at q
  · cases q
  · rename_i hh
    simp only [Bool.or_eq_true, Bool.not_eq_true', not_or, Bool.not_eq_false] at hh
    obtain ⟨hk, hl⟩ := hh
    obtain ⟨hl, hf⟩ := Bool.and_eq_true_iff.mp hl
    cases e1 : ixOf C.N x with
    | none => rw [e1] at q; cases q
    | some i =>
      cases e2 : cE tb C n false v with
      | none => rw [e1, e2] at q; cases q
      | some y =>
        rw [e1, e2] at q
        simp only at q
        obtain ⟨T, p, ht⟩ := set_nm (px := px) (pos := pos) h hk hl hf e1 e2
        split at q
        · cases q
          exact PS.to p fun D σ H z => ht σ H _ (asgO_rd z)
        · split at q
          · cases q
          · cases q
            exact PS.to p fun D σ H z => ht σ H _ (asg_rd z)
/-- parts side by side -/
theorem ps_of (h : Cs E tb C X W) : ∀ {n : Nat} {es : List Expr} {l : Ex}, cL tb C n false es = some l → es.any isStarE = false → PA X es (tPs E W l)
  | 0, _, _, q, _ => by cases q
  | n + 1, [], l, q, _ => by cases q; exact pa_nil
  | n + 1, e :: es, l, q, hs => by
    have h1 : isStarE e = false ∧ es.any isStarE = false := by simpa using hs
    have q2 : (match cE tb C n false e, cL tb C n false es with
      | some x, some r => some (Ex.cons x r)
      | _, _ => none) = some l := by
      cases e <;> first | exact q | exact absurd h1.1 Bool.noConfusion
    cases e1 : cE tb C n false e with
    | none => rw [e1] at q2; cases q2
    | some x =>
      cases e2 : cL tb C n false es with
      | none => rw [e1, e2] at q2; cases q2
      | some r =>
        rw [e1, e2] at q2
        cases q2
        exact pa_cons ((snd_all n).sE h false e x e1) (ps_of h e2 h1.2) (star1 h1.1)
theorem nms_inv : ∀ {own : List Nat} {ts : List Expr} {e : Ex} {l : List (Nat × Bool)}, nmsOf C.N own ts e = some l → ∃ ys : List (Str × Pos × Nat × Bool), ts = ys.map (fun y => .Name y.1 y.2.1) ∧ l = ys.map (fun y => y.2.2) ∧ ∀ y ∈ ys, ixOf C.N y.1 = some y.2.2.1
  | own, [], .nil, l, q => by cases q; exact ⟨[], rfl, rfl, fun _ z => nomatch z⟩
  | own, .Name x p :: r, .cons y e, l, q => by
    have q2 : (match ixOf C.N x, nmsOf C.N own r e with
      | some i, some l => some ((i, own.contains i && isFr y) :: l)
      | _, _ => none) = some l := q
    cases e1 : ixOf C.N x with
    | none => rw [e1] at q2; cases q2
    | some i =>
      cases e2 : nmsOf C.N own r e with
      | none => rw [e1, e2] at q2; cases q2
      | some l2 =>
        rw [e1, e2] at q2
        cases q2
        obtain ⟨ys, rfl, rfl, h3⟩ := nms_inv e2
        refine ⟨(x, p, i, own.contains i && isFr y) :: ys, rfl, rfl, fun z hz => ?_⟩
        rcases List.mem_cons.mp hz with rfl | hz
        · exact e1
        · exact h3 z hz
/-- the names of a pair, a triple -/
theorem swC_inv {sc : Scope} {ts vs : List Expr} {ns : List Str} (q : swC sc ts vs = some (some ns)) : (ts.length = 2 ∨ ts.length = 3) ∧ vs.length = ts.length ∧ ns.length = ts.length ∧ ns.eraseDups.length = ns.length ∧ ∃ line, ns = ts.filterMap fun
    | .Name id pos => if sc.names.lookup id == some .local && pos.line == line then some id else none
    | _ => none := by
  unfold swC at q
  split at q
  · cases q
  · rename_i c1
    split at q
    · cases q
    · simp only at q
      split at q
      · cases q
      · rename_i c3
        split at q
        · cases q
        · split at q
          · cases q
          · injection q with q
            injection q with q
            simp only [Bool.or_eq_true, Bool.not_eq_true', beq_iff_eq, bne_iff_ne, ne_eq, not_or, Bool.not_eq_false, Decidable.not_not] at c1 c3
            rw [← q]
            exact ⟨c1.1.1, c1.1.2, c3.1, c3.2, _, rfl⟩
theorem ed_nil : ([] : List Str).eraseDups = [] := rfl
theorem ed_cons (a : Str) (l : List Str) : (a :: l).eraseDups = a :: (l.filter fun b => !b == a).eraseDups := List.eraseDups_cons
theorem ed_one (a : Str) : [a].eraseDups.length = 1 := rfl
theorem ed_le1 (b : Str) (p : Str → Bool) : ([b].filter p).eraseDups.length ≤ 1 := by
  cases h : p b <;> simp [List.filter_cons, h, ed_nil, ed_cons]
theorem dup2 {a b : Str} (h : [a, b].eraseDups.length = 2) : a ≠ b := fun e => by
  subst e
  rw [ed_cons] at h
  simp [ed_nil] at h
theorem dup3 {a b c : Str} (h : [a, b, c].eraseDups.length = 3) : a ≠ b ∧ a ≠ c ∧ b ≠ c := by
  rw [ed_cons, List.length_cons] at h
  have hb : b ≠ a := fun e => by
    subst e
    have : (List.filter (fun x => !x == b) [b, c]) = List.filter (fun x => !x == b) [c] := by simp [List.filter_cons]
    rw [this] at h
    have := ed_le1 c (fun x => !x == b)
    omega
  have hc : c ≠ a := fun e => by
    subst e
    have : (List.filter (fun x => !x == c) [b, c]) = List.filter (fun x => !x == c) [b] := by simp [List.filter_cons]
    rw [this] at h
    have := ed_le1 b (fun x => !x == c)
    omega
  have e2 : (List.filter (fun x => !x == a) [b, c]) = [b, c] := by simp [List.filter_cons, hb, hc]
  rw [e2] at h
  exact ⟨hb.symm, hc.symm, dup2 (by omega)⟩
end
end Z

/-! Zy: assignments and statements. -/
namespace Z
open PySem PySem.Spec PyProof.Rows L2
section
variable {E : En} {tb : Tb} {C : Sc} {U : Du} {X : Cx} {W : WX}
theorem fm_all {ys : List Expr} {f : Expr → Option Str} : (ys.filterMap f).length = ys.length → ys.map f = (ys.filterMap f).map some := by
  induction ys with
  | nil => intro _; rfl
  | cons y r ih =>
    intro h
    have le := List.length_filterMap_le f r
    cases e : f y with
    | none => rw [List.filterMap_cons_none e] at h; simp at h; omega
    | some z =>
      rw [List.filterMap_cons_some e] at h ⊢
      simp only [List.map_cons, e]
      rw [ih (by simpa using h)]
theorem loc_pick {sc : Scope} {id z : Str} {p : Pos} {line : Nat} (h : (if sc.names.lookup id == some .local && p.line == line then some id else none) = some z) : sc.names.lookup id = some .local ∧ id = z := by
  split at h
  · rename_i c
    injection h with h
    simp only [Bool.and_eq_true] at c
    have c1 := c.1
    refine ⟨?_, h⟩
    cases e : sc.names.lookup id with
    | none => rw [e] at c1; cases c1
    | some k => rw [e] at c1; cases k <;> first | rfl | cases c1
  · cases h
theorem ix_ne {x y : Str} {i j : Nat} (h1 : ixOf C.N x = some i) (h2 : ixOf C.N y = some j) (h : x ≠ y) : i ≠ j := fun e => by
  subst e
  have a := ixOf_get h1
  rw [ixOf_get h2] at a
  exact h (Option.some.inj a).symm
theorem sw_sole {v tg : Expr} {l : Nat} {env : Env} (h : isLcE v = false) : swapsWithSole [tg] v l env = pure false := sw_plain (tg := some tg) h
theorem len2 {α : Type} : ∀ {l : List α}, l.length = 2 → ∃ a b, l = [a, b]
  | [a, b], _ => ⟨a, b, rfl⟩
theorem len3 {α : Type} : ∀ {l : List α}, l.length = 3 → ∃ a b c, l = [a, b, c]
  | [a, b, c], _ => ⟨a, b, c, rfl⟩
/-- the stores of a tuple of names -/
theorem cGs_nms : ∀ {n : Nat} {ys : List (Str × Pos × Nat × Bool)} {t : Tg}, cGs C n (ys.map fun y => .Name y.1 y.2.1) = some t → (∀ y ∈ ys, ixOf C.N y.1 = some y.2.2.1) → t = nmsT (ys.map fun y => y.2.2)
  | 0, _, _, q, _ => by cases q
  | n + 1, [], t, q, _ => by cases q; rfl
  | n + 1, y :: ys, t, q, hy => by
    have q2 : (match cG C n (.Name y.1 y.2.1), cGs C n (ys.map fun y => .Name y.1 y.2.1) with
      | some a, some r => if isStarE (.Name y.1 y.2.1) then none else some (Tg.cons a r)
      | _, _ => none) = some t := q
    cases n with
    | zero => cases q2
    | succ n =>
      cases e1 : cG C (n + 1) (.Name y.1 y.2.1) with
      | none => rw [e1] at q2; cases q2
      | some a =>
        cases e2 : cGs C (n + 1) (ys.map fun y => .Name y.1 y.2.1) with
        | none => rw [e1, e2] at q2; cases q2
        | some r =>
          rw [e1, e2] at q2
          cases q2
          have e3 : (if locB C.sc y.1 && (C.fnb y.1 || isLoc C.sc y.1) then (ixOf C.N y.1).map Tg.nm else none) = some a := e1
          split at e3
          · rw [hy y (.head _)] at e3
            cases e3
            rw [cGs_nms e2 fun z hz => hy z (.tail _ hz)]
            rfl
          · cases e3
theorem at_ok (h : Cs E tb C X W) {n : Nat} {ts : List Expr} {k : Nat} {p pos : Pos} {v : Expr} {ir : Sx} (q : cAt tb C U n ts (.Tuple ts k p) v = some ir) : PS X (.Assign [.Tuple ts k p] v pos) (tS E W ir) := by
  have rest : isLcE v = false → (∀ vs k2 p2, v ≠ .Tuple vs k2 p2) → (match cG C n (.Tuple ts k p), cE tb C n false v with
    | some t, some y => if isB y then none else some (Sx.asg t y)
    | _, _ => none) = some ir → PS X (.Assign [.Tuple ts k p] v pos) (tS E W ir) := fun hl hv q => by
    cases e1 : cG C n (.Tuple ts k p) with
    | none => rw [e1] at q; cases q
    | some t =>
      cases e2 : cE tb C n false v with
      | none => rw [e1, e2] at q; cases q
      | some y =>
        rw [e1, e2] at q
        simp only at q
        split at q
        · cases q
        · cases q
          exact PS.to (ps_asg ((snd_all n).sE h false v y e2) (cG_ok h e1) (sw_sole hl) (sw_none (fun _ _ _ vs k2 p2 _ e => hv vs k2 p2 e) fun _ _ z => nomatch z) (asg_one rfl)) fun D σ H z => asg_rd z
  cases v with
  | Tuple vs k2 p2 =>
    have q2 : (match cL tb C n false vs with
      | some e => (match nmsOf C.N U.own ts e with
        | some l => if vs.any isStarE || !isFunK C.sc.kind then none else (match swC C.sc ts vs with
          | some none => (match cG C n (.Tuple ts k p) with
            | some (.tp t) => if decide (l.length ≤ 1000000) then some (Sx.par l e) else none
            | _ => none)
          | some (some _) => some (.par l e)
          | none => none)
        | none => none)
      | none => none) = some ir := q
    cases e1 : cL tb C n false vs with
    | none => rw [e1] at q2; cases q2
    | some e =>
      simp only [e1] at q2
      cases e2 : nmsOf C.N U.own ts e with
      | none => simp only [e2] at q2; cases q2
      | some l =>
        simp only [e2] at q2
        split at q2
        · cases q2
        · rename_i hh
          simp only [Bool.or_eq_true, Bool.not_eq_true', not_or, Bool.not_eq_true, Bool.not_eq_false] at hh
          obtain ⟨hst, hk⟩ := hh
          have hkX : isFunK X.env.scope.kind = true := by rw [h.hsc]; exact hk
          have pa := ps_of h e1 hst
          obtain ⟨ys, rfl, rfl, hy⟩ := nms_inv e2
          cases e3 : swC C.sc (ys.map fun y => .Name y.1 y.2.1) vs with
          | none => simp only [e3] at q2; cases q2
          | some o =>
            simp only [e3] at q2
            have hw : swappedStores [.Tuple (ys.map fun y => Expr.Name y.1 y.2.1) k p] (.Tuple vs k2 p2) X.env = pure o := sw_eq (.inl hkX) (fun_block hkX) (by rw [h.hsc]; exact e3)
            cases o with
            | none =>
              simp only at q2
              cases e4 : cG C n (.Tuple (ys.map fun y => .Name y.1 y.2.1) k p) with
              | none => rw [e4] at q2; cases q2
              | some t =>
                rw [e4] at q2
                cases t with
                | tp t =>
                  simp only at q2
                  split at q2
                  · rename_i hl
                    cases q2
                    have et : t = nmsT (ys.map fun y => y.2.2) := by
                      cases n with
                      | zero => cases e4
                      | succ n =>
                        obtain ⟨t', e5, e6⟩ := Option.map_eq_some_iff.mp (show (cGs C n (ys.map fun y => .Name y.1 y.2.1)).map Tg.tp = some (.tp t) from e4)
                        cases e6
                        exact cGs_nms e5 hy
                    subst et
                    exact s_parU (of_decide_eq_true hl) pa (cG_ok h e4) (sw_sole rfl) hw (asg_one rfl)
                  · cases q2
                | _ => cases q2
            | some ns =>
              cases q2
              obtain ⟨c1, c2, c3, c4, line, c5⟩ := swC_inv e3
              rw [c5] at c3
              have c6 := fm_all c3
              rw [← c5] at c6
              rcases c1 with c1 | c1
              · obtain ⟨y1, y2, rfl⟩ := len2 (show ys.length = 2 by simpa using c1)
                obtain ⟨a, b, rfl⟩ := len2 (show vs.length = 2 by rw [c2, c1])
                obtain ⟨n1, n2, rfl⟩ := len2 (show ns.length = 2 by rw [c5, c3, c1])
                have c7 := List.cons.inj c6
                have c8 := List.cons.inj c7.2
                obtain ⟨l1, r1⟩ := loc_pick c7.1
                obtain ⟨l2, r2⟩ := loc_pick c8.1
                subst r1
                subst r2
                have i1 := hy y1 (.head _)
                have i2 := hy y2 (.tail _ (.head _))
                exact s_par2 h.calm h.nd (by rw [h.hN]; exact ixOf_get i1) (by rw [h.hN]; exact ixOf_get i2) (ix_ne i1 i2 (dup2 c4)) (by rw [h.hsc]; exact l1) (by rw [h.hsc]; exact l2) pa hw (sw_sole rfl)
              · obtain ⟨y1, y2, y3, rfl⟩ := len3 (show ys.length = 3 by simpa using c1)
                obtain ⟨a, b, c, rfl⟩ := len3 (show vs.length = 3 by rw [c2, c1])
                obtain ⟨n1, n2, n3, rfl⟩ := len3 (show ns.length = 3 by rw [c5, c3, c1])
                have c7 := List.cons.inj c6
                have c8 := List.cons.inj c7.2
                have c9 := List.cons.inj c8.2
                obtain ⟨l1, r1⟩ := loc_pick c7.1
                obtain ⟨l2, r2⟩ := loc_pick c8.1
                obtain ⟨l3, r3⟩ := loc_pick c9.1
                subst r1
                subst r2
                subst r3
                have i1 := hy y1 (.head _)
                have i2 := hy y2 (.tail _ (.head _))
                have i3 := hy y3 (.tail _ (.tail _ (.head _)))
                obtain ⟨d1, d2, d3⟩ := dup3 c4
                exact s_par3 h.calm h.nd (by rw [h.hN]; exact ixOf_get i1) (by rw [h.hN]; exact ixOf_get i2) (by rw [h.hN]; exact ixOf_get i3) (ix_ne i1 i2 d1) (ix_ne i1 i3 d2) (ix_ne i2 i3 d3) (by rw [h.hsc]; exact l1) (by rw [h.hsc]; exact l2) (by rw [h.hsc]; exact l3) pa hw (sw_sole rfl)
  | ListComp _ _ _ _ => cases q
  | SetComp _ _ _ _ => cases q
  | DictComp _ _ _ _ _ => cases q
  | _ => exact rest rfl (fun _ _ _ z => nomatch z) q
theorem own_ix (h : Cs E tb C X W) {x : Str} {i : Nat} (q : ownIx C U x = some i) : X.N[i]? = some x ∧ Vis X.env.scope x ∧ (x == ("__debug__" : Str)) = false ∧ (x == ("__classdict__" : Str)) = false := by
  unfold ownIx at q
  split at q
  · rename_i hh
    obtain ⟨h1, h2⟩ := Bool.and_eq_true_iff.mp hh
    cases e : ixOf C.N x with
    | none => rw [e] at q; cases q
    | some j =>
      rw [e] at q
      simp only at q
      split at q
      · cases q
        exact ⟨by rw [h.hN]; exact ixOf_get e, vis_of h h1, (ok_of h2).1, (ok_of h2).2⟩
      · cases q
  · cases q
theorem x_ok (h : Cs E tb C X W) {n : Nat} {e : Expr} {pos : Pos} {ir : Sx} (q : cX tb C U n e = some ir) : PS X (.Expr e pos) (tS E W ir) := by
  have dr : isLcE e = false → (cE tb C n true e).map Sx.drop = some ir → PS X (.Expr e pos) (tS E W ir) := fun hl q => by
    obtain ⟨y, e1, rfl⟩ := Option.map_eq_some_iff.mp q
    exact s_drop ((snd_all n).sE h true e y e1) (sw_plain hl)
  have other : (if isLcE e then none else (cE tb C n true e).map Sx.drop) = some ir → PS X (.Expr e pos) (tS E W ir) := fun q => by
    split at q
    · cases q
    · rename_i hl; exact dr (by simpa using hl) q
  unfold cX at q
  split at q
  · rename_i x f a hm
    obtain ⟨xp, ap, cp, rfl, hline⟩ := mth_pat hm
    cases e1 : ownIx C U x with
    | none => rw [e1] at q; exact dr rfl q
    | some i =>
      rw [e1] at q
      simp only at q
      obtain ⟨o1, o2, o3, o4⟩ := own_ix h e1
      split at q
      · cases q
      · rename_i hs
        have hs : isStarE a = false := by simpa using hs
        cases e2 : cE tb C n false a with
        | none => rw [e2] at q; cases q
        | some y =>
          rw [e2] at q
          simp only at q
          have pa := (snd_all n).sE h false a y e2
          split at q
          · rename_i hf; subst hf; cases q; exact s_app o1 o2 o3 o4 pa (star1 hs) hline
          · split at q
            · rename_i hf; subst hf; cases q; exact s_ext o1 o2 o3 o4 pa (star1 hs) hline
            · cases q
  · exact other q
theorem cG_star {n : Nat} {tg : Expr} {t : Tg} (q : cG C n tg = some t) : isStarE tg = false := by
  cases n with
  | zero => cases q
  | succ n => cases tg <;> first | rfl | cases q
theorem cG_nlist {n : Nat} {tg : Expr} {t : Tg} (q : cG C n tg = some t) : ∀ ts p, tg ≠ .List ts p := by
  cases n with
  | zero => cases q
  | succ n => cases tg <;> first | (intro _ _ z; cases z; done) | cases q
theorem ar_ok (h : Cs E tb C X W) {n : Nat} {tg v : Expr} {pos : Pos} {ir : Sx} (q : cAs.cAr tb C U n tg v = some ir) : PS X (.Assign [tg] v pos) (tS E W ir) := by
  have hu1 : X.A.units + 1 < cLine := by have := h.room.un; omega
  unfold cAs.cAr at q
  split at q
  · exact an_ok h q
  · exact at_ok h q
  · rename_i x xp k sp
    cases e1 : ownIx C U x with
    | none => rw [e1] at q; cases q
    | some i =>
      rw [e1] at q
      simp only at q
      obtain ⟨o1, o2, o3, o4⟩ := own_ix h e1
      split at q
      · cases q
      · rename_i hl
        cases e2 : cE tb C n true k with
        | none => rw [e2] at q; cases q
        | some z =>
          cases e3 : cE tb C n false v with
          | none => rw [e2, e3] at q; cases q
          | some y =>
            rw [e2, e3] at q
            cases q
            exact s_set hu1 o1 o2 o3 o4 ((snd_all n).sE h true k z e2) ((snd_all n).sE h false v y e3) (sw_plain (by simpa using hl))
  · rename_i x xp f fp
    split at q
    · rename_i hh
      simp only [Bool.and_eq_true, Bool.not_eq_true'] at hh
      obtain ⟨⟨h1, h2⟩, h3⟩ := hh
      cases e1 : ixOf C.N x with
      | none => rw [e1] at q; cases q
      | some i =>
        cases e2 : tb.ats.lookup f with
        | none => rw [e1, e2] at q; cases q
        | some k =>
          cases e3 : cE tb C n false v with
          | none => rw [e1, e2, e3] at q; cases q
          | some y =>
            rw [e1, e2, e3] at q
            cases q
            exact s_fld h.hK (h.ats f k e2).1 (by rw [h.hN]; exact ixOf_get e1) (vis_of h h1) (ok_of h2).1 (ok_of h2).2 ((snd_all n).sE h false v y e3) (sw_plain h3)
    · cases q
  · cases q
theorem as_ok (h : Cs E tb C X W) {n : Nat} {tg v : Expr} {pos : Pos} {ir : Sx} (q : cAs tb C U n tg v = some ir) : PS X (.Assign [tg] v pos) (tS E W ir) := by
  unfold cAs at q
  split at q
  · rename_i x f args hm
    obtain ⟨xp, ap, cp, rfl, hline⟩ := mth_pat hm
    cases e1 : ownIx C U x with
    | none => rw [e1] at q; exact ar_ok h q
    | some i =>
      rw [e1] at q
      simp only at q
      obtain ⟨o1, o2, o3, o4⟩ := own_ix h e1
      split at q
      · rename_i hf
        subst hf
        cases e2 : popArg args with
        | none => rw [e2] at q; cases q
        | some l =>
          cases e3 : cG C n tg with
          | none => rw [e2, e3] at q; cases q
          | some t =>
            rw [e2, e3] at q
            cases q
            have hw : ∀ v, (∀ vs k p, v ≠ Expr.Tuple vs k p) → swappedStores [tg] v X.env = pure none := fun v hv => sw_none (fun _ _ _ vs k2 p2 _ e => hv vs k2 p2 e) (cG_nlist e3)
            unfold popArg at e2
            split at e2
            · cases e2
              exact s_pop o1 o2 o3 o4 (cG_ok h e3) hline (asg_one (cG_star e3)) (sw_sole rfl) (hw _ fun _ _ _ z => nomatch z)
            · cases e2
              exact s_pop0 o1 o2 o3 o4 (cG_ok h e3) hline (asg_one (cG_star e3)) (sw_sole rfl) (hw _ fun _ _ _ z => nomatch z)
            · cases e2
      · cases q
  · exact ar_ok h q
theorem frz_ok {s : List Stmt} {j : Sx} (h : PSs X s (tS E W j)) : ∀ l : List Nat, PSs X s (tS E W (frzW l j))
  | [] => h
  | i :: is => s_sfrz (frz_ok h is)
theorem st_all (h : Cs E tb C X W) (hp : PassesOwn (model X.prog X.w) X.A X.env X.xe) : ∀ n, (∀ s ir, cSt tb C U n s = some ir → PS X s (tS E W ir)) ∧ ∀ ss ir, cSs tb C U n ss = some ir → PSs X ss (tS E W ir)
  | 0 => ⟨fun _ _ q => (by cases q), fun _ _ q => (by cases q)⟩
  | n + 1 => by
    obtain ⟨ih1, ih2⟩ := st_all h hp n
    refine ⟨fun s ir q => ?_, fun ss ir q => ?_⟩
    · unfold cSt at q
      split at q
      · cases q; exact s_pass
      · cases q; exact s_brk
      · cases q; exact s_cnt
      · cases q; exact s_retN
      · rename_i e p
        cases e1 : cE tb C n false e with
        | none => rw [e1] at q; cases q
        | some x =>
          rw [e1] at q
          simp only at q
          split at q
          · cases q
          · rename_i hb; cases q; exact s_ret ((snd_all n).sE h false e x e1) (by simpa using hb)
      · exact x_ok h q
      · exact as_ok h q
      · rename_i c a b p
        cases e1 : cT tb C n c with
        | none => rw [e1] at q; cases q
        | some z =>
          cases e2 : cSs tb C U n a with
          | none => rw [e1, e2] at q; cases q
          | some i =>
            cases e3 : cSs tb C U n b with
            | none => rw [e1, e2, e3] at q; cases q
            | some j =>
              rw [e1, e2, e3] at q
              cases q
              exact s_if ((snd_all n).sT h c z e1) (ih2 a i e2) (ih2 b j e3)
      · rename_i tg it body p
        cases e1 : cI tb C n false tg it with
        | none => rw [e1] at q; cases q
        | some s =>
          cases e2 : cG C n tg with
          | none => rw [e1, e2] at q; cases q
          | some t =>
            cases e3 : cSs tb C U n body with
            | none => rw [e1, e2, e3] at q; cases q
            | some i =>
              rw [e1, e2, e3] at q
              simp only at q
              split at q
              · rename_i hn
                cases q
                obtain ⟨pi, hset⟩ := (snd_all n).sI h false tg it s e1
                exact s_for hp h.calm hn pi (cG_ok h e2) (ih2 body i e3) (fold_set hset)
              · cases q
      · rename_i c body p
        cases e1 : cT tb C n c with
        | none => rw [e1] at q; cases q
        | some z =>
          cases e2 : cSs tb C U n body with
          | none => rw [e1, e2] at q; cases q
          | some i =>
            rw [e1, e2] at q
            cases q
            exact s_while hp ((snd_all n).sT h c z e1) (ih2 body i e2)
      · cases q; exact s_nev
      · cases q
    · cases ss with
      | nil => cases q; exact s_snil
      | cons s ss =>
        have q2 : (match cSt tb C U n s, cSs tb C U n ss with
          | some i, some j => some (frzW ((U.frz.lookup (lineOf s)).getD []) (.seq i j))
          | _, _ => none) = some ir := q
        cases e1 : cSt tb C U n s with
        | none => rw [e1] at q2; cases q2
        | some i =>
          cases e2 : cSs tb C U n ss with
          | none => rw [e1, e2] at q2; cases q2
          | some j =>
            rw [e1, e2] at q2
            cases q2
            exact frz_ok (s_scons (ih1 s i e1) (ih2 ss j e2)) _
end
end Z

/-! Zf: a def, by its body in the small language. -/
namespace Z
open PySem PySem.Spec PyProof.Rows L2
section
variable {E : En} {tb : Tb} {C : Sc} {U : Du}
theorem argS_get : ∀ {bs : List Bool} {ds : List D} {vs : List V} {P : Addr → Prop} {H : Hp} {m : Nat}, ArgR E P H bs vs ds → ∀ (i : Nat) (o : SV), (List.zipWith (fun b d => some (if b then SV.brw d else SV.val d)) bs ds ++ List.replicate m none)[i]? = some (some o) →
    ∃ v b d, vs[i]? = some v ∧ o = (if b then SV.brw d else SV.val d) ∧ (if b = true then RepB E.K E.cl P H v d else Rep E.K E.cl P H v d)
  | [], [], [], P, H, m, _, i, o, e => by
    have e : (List.replicate m (none : Option SV))[i]? = some (some o) := e
    rw [List.getElem?_replicate] at e
    split at e <;> cases e
  | b :: bs, d :: ds, v :: vs, P, H, m, h, 0, o, e => by
    have e : some (some (if b then SV.brw d else SV.val d)) = some (some o) := e
    cases e
    exact ⟨v, b, d, rfl, rfl, h.1⟩
  | b :: bs, d :: ds, v :: vs, P, H, m, h, i + 1, o, e => argS_get h.2 i o e
  | [], _, _ :: _, _, _, _, h, _, _, _ => h.elim
  | [], _ :: _, [], _, _, _, h, _, _, _ => h.elim
  | _ :: _, _, [], _, _, _, h, _, _, _ => h.elim
  | _ :: _, [], _ :: _, _, _, _, h, _, _, _ => h.elim
theorem start_rl {P : Addr → Prop} {H : Hp} {N : List Str} {bs : List Bool} {vs : List V} {ds : List D} (hd : DomP P H) (ht : Tbs P E.T H) (ha : ArgR E P H bs vs ds) (hn : ds.length ≤ N.length) : RlS E P H P (argS bs ds N.length) (L2.start N vs) H := by
  obtain ⟨l1, l2⟩ := ha.len
  have gv : ∀ {i : Nat} {v : V}, vs[i]? = some v → (L2.start N vs)[i]? = some (some v) := fun {i v} e => by
    unfold L2.start
    have hi : i < (vs.map some).length := by rw [List.length_map]; exact (List.getElem?_eq_some_iff.mp e).1
    rw [List.getElem?_append_left hi, List.getElem?_map, e]
    rfl
  refine ⟨hd, hd, fun _ z => z, fun _ z => .inl z, Sm.refl H, ht, ht, ?_, fun i d e => ?_, fun i d e => ?_, fun i d e => ?_, fun i j d e a q1 q2 q3 q4 => ?_, fun i c fs e => ?_, fun i j c c' fs fs' q1 q2 => ?_, fun i c fs e => ?_⟩
  · unfold L2.start argS
    simp only [List.length_append, List.length_map, List.length_replicate, List.length_zipWith]
    omega
  · obtain ⟨v, b, d', e1, e2, r⟩ := argS_get ha i _ e
    cases b with
    | true => cases e2
    | false => cases e2; exact ⟨v, gv e1, r⟩
  · obtain ⟨v, b, d', e1, e2, r⟩ := argS_get ha i _ e
    cases b with
    | false => cases e2
    | true =>
      cases e2
      refine ⟨v, gv e1, ?_⟩
      rcases (show RepB E.K E.cl P H v d from r) with r | ⟨a, ea, r⟩
      · exact .inl r
      · exact .inr ⟨a, ea, r.dom, r⟩
  · obtain ⟨v, b, d', e1, e2, r⟩ := argS_get ha i _ e
    cases b <;> cases e2
  · obtain ⟨v, b, d', e1, e2, r⟩ := argS_get ha i _ q1
    cases b <;> cases e2
  · obtain ⟨v, b, d', e1, e2, r⟩ := argS_get ha i _ e
    cases b <;> cases e2
  · obtain ⟨v, b, d', e1, e2, r⟩ := argS_get ha i _ q1
    cases b <;> cases e2
  · obtain ⟨v, b, d', e1, e2, r⟩ := argS_get ha i _ e
    cases b <;> cases e2
/-- a def of the text -/
theorem fn_def {P : Program} {w : World} {K : PySem.W.Frag} {mg : Str → Option Value} {base : Heap} {k g n : Nat} {f : Addr} {name qual : Str} {params : Arguments} {body : List Stmt} {scope : Scope} {dV kV doc pm cdv ct oc : Value} {an od : Option Addr}
    {osl : Array (Option Value)} {N ps : List Str} {ir : Sx} (lk : K.lookup f = some ⟨oc, od, .func (PySem.W.fnOf name qual params body scope dV kV doc pm an cdv ct), osl⟩) (hcd : PySem.W.codeIn K cdv qual = true) (S : FnScope N ps scope) (hps : ps.length = (E.fb g).length)
    (hcs : ∀ (A : Around) (outer : List Env) (s : Shared) (H : Hp) (XE : XK), Room k (A.deeper (envOfC qual scope s.heap.objs.size f cdv)) → Takes (cxOf (L2.CX P w) P w K mg base N qual scope f cdv A outer s H XE) (fun cls d _ H' => XE cls d H') →
      Cs E tb C (cxOf (L2.CX P w) P w K mg base N qual scope f cdv A outer s H XE) (fun cls d _ H' => XE cls d H'))
    (hir : cSs tb C U n body = some ir) (hF : ∀ ds, E.G.F g ds ≠ .no → E.G.F g ds = evB E.G ir (E.fb g) N.length ds) : FnOk P w K mg base (L2.CX P w) (k + 1) f (PySem.W.fnOf name qual params body scope dV kV doc pm an cdv ct) ps (spF E g) := by
  have hpl : ps.length ≤ N.length := by have := congrArg List.length S.pre; rw [List.length_take] at this; omega
  refine fn_of lk hcd S (fun vs H Q XE h => ?_) fun A outer s H vs Q XE hr h => ?_
  · obtain ⟨P, ds, _, _, ha, _⟩ := h
    rw [hps]
    exact ha.len.1
  · obtain ⟨P0, ds, hd, ht, ha, h⟩ := h
    have tk : Takes (cxOf (L2.CX P w) P w K mg base N qual scope f cdv A outer s H XE) (fun cls d _ H' => XE cls d H') := takes_of rfl rfl rfl rfl
    have hp : PassesOwn (model P w) (A.deeper (envOfC qual scope s.heap.objs.size f cdv)) (envOfC qual scope s.heap.objs.size f cdv) (cxOf (L2.CX P w) P w K mg base N qual scope f cdv A outer s H XE).xe := passes_of (X := cxOf (L2.CX P w) P w K mg base N qual scope f cdv A outer s H XE) rfl
    refine ⟨_, (st_all (hcs A outer s H XE hr tk) hp n).2 body ir hir, argS (E.fb g) ds N.length, P0, H, P0, start_rl hd ht ha (by rw [ha.len.2, ← hps]; exact hpl), ?_⟩
    have hn : E.G.F g ds ≠ .no := fun z => by rw [z] at h; exact h
    rw [hF ds hn] at h
    unfold evB at h
    rw [if_pos ha.len.2.symm] at h
    cases e : evS E.G ir (argS (E.fb g) ds N.length) with
    | nx st' => rw [e] at h; exact fun P' σ' H' r _ => (show ∀ v H', Sm E H H' → Rep E.K E.cl P0 H' v .non → Q v H' from h) _ H' r.same .non
    | bk st' => rw [e] at h; exact (show False from h).elim
    | ct st' => rw [e] at h; exact (show False from h).elim
    | rt d => rw [e] at h; exact h
    | ex x st' => rw [e] at h; exact fun P' σ' H' d r q => (show ∀ d H', Sm E H H' → XAt E P0 H' x d → XE (.ref (E.xc x.c)) d H' from h) d H' r.same q
    | no => rw [e] at h; exact (show False from h).elim
end
end Z

/-! Zg: classes: a new instance by its __init__. -/
namespace Z
open PySem PySem.Spec PyProof.Rows L2
def allS : List (Option D) → Option (List D)
  | [] => some []
  | some d :: r => (allS r).map (d :: ·)
  | none :: _ => none
/-- the end of an __init__ -/
def insO (c : Nat) : Out → R D
  | .nx st => (match (st[0]? : Option (Option SV)) with
    | some (some (.slf c' fs)) => (match allS fs with
      | some (d :: ds) => if c' = c then .ok (.ins c (d :: ds)) else .no
      | _ => .no)
    | _ => .no)
  | .ex x _ => .ex x
  | _ => .no
noncomputable def evM (G : Pg) (body : Sx) (bs : List Bool) (n c m : Nat) (ds : List D) : R D :=
  if bs.length = ds.length then insO c (evS G body (some (.slf c (List.replicate m none)) :: argS bs ds n)) else .no
section
variable (E : En)
/-- what the __init__ of the class c, made by f, promises -/
def spI (f c : Nat) : Sp := fun vs H Q XE => ∃ P H0 ds x dx vs', vs = .ref x :: vs' ∧ H0 x = none ∧ H0 dx = none ∧ dx ≠ x ∧ H = upd (upd H0 dx (.own x)) x (.ins (E.cl c) dx []) ∧ DomP P H0 ∧ Tbs P E.T H0 ∧ ArgR E P H0 (E.fb f) vs' ds ∧ (match E.G.F f ds with
  | .ok d => ∀ H', Sm E H0 H' → Rep E.K E.cl P H' (.ref x) d → Q .non H'
  | .ex x => ∀ d H', Sm E H0 H' → XAt E P H' x d → XE (.ref (E.xc x.c)) d H'
  | .no => False)
end
def En.at (E : En) (x : Addr) : En := { E with me := x }
section
variable {E : En} {W : WX} {X : Cx} {tb : Tb} {C : Sc} {U : Du}
theorem callsM {Cl fi : Addr} {k f c : Nat} (hcl : E.cl c = Cl) (M : Mk X.K Cl fi) (F : FnR X.prog X.w X.K X.mg X.base (L2.CX X.prog X.w) k fi (spI E f c)) (hr : Room (k + 1) X.A) (tk : Takes X W) (hi : Ind W) : CallsF E X W Cl f := by
  intro pins s σ H vs us Q I r h
  obtain ⟨P, ds, hd, ht, ha, h⟩ := h
  refine StX.run_makeR (E := WE W σ) M F hr ?_ I r fun x dx nx ndx ne => ⟨P, H, ds, x, dx, vs, rfl, nx, ndx, ne, by rw [hcl], hd, ht, ha, ?_⟩
  · intro pins σ' H' s' e s2 I2 q
    have ew : WE W σ = WE W σ' := funext fun c => funext fun d => funext fun H => propext ⟨fun z => hi c d σ σ' H z, fun z => hi c d σ' σ H z⟩
    rw [ew] at q
    exact passAt tk σ' pins H' s' e s2 I2 q
  · cases e : E.G.F f ds with
    | ok d => rw [e] at h; exact fun H' s' r' => ⟨rfl, h _ H' s' r'⟩
    | ex x => rw [e] at h; exact h
    | no => rw [e] at h; exact h.elim
theorem allS_some : ∀ {fs : List (Option D)} {ds : List D}, allS fs = some ds → fs = ds.map some
  | [], ds, h => by cases h; rfl
  | some d :: r, ds, h => by
    unfold allS at h
    obtain ⟨es, h1, rfl⟩ := Option.map_eq_some_iff.mp h
    rw [allS_some h1]
    rfl
  | none :: r, ds, h => by cases h
theorem reps_of {K : PySem.W.Frag} {cl : Nat → Addr} {P : Addr → Prop} {H : Hp} : ∀ {ds : List D} {vs : List (Option V)}, vs.length ≤ ds.length → (∀ (j : Nat) (d : D), ds[j]? = some d → ∃ v, vs[j]? = some (some v) ∧ Rep K cl P H v d) → ∃ ws, vs = ws.map some ∧ Reps K cl P H ws ds
  | [], [], _, _ => ⟨[], rfl, .nil⟩
  | [], _ :: _, hl, _ => by simp at hl
  | d :: ds, [], _, h => by obtain ⟨v, h1, _⟩ := h 0 d rfl; simp at h1
  | d :: ds, o :: vs, hl, h => by
    obtain ⟨v, h1, r⟩ := h 0 d rfl
    have h1 : some o = some (some v) := h1
    cases h1
    obtain ⟨ws, e, rs⟩ := reps_of (ds := ds) (vs := vs) (by simpa using hl) fun j d' q => h (j + 1) d' q
    exact ⟨v :: ws, by rw [e]; rfl, .cons r rs⟩
theorem start_me {P : Addr → Prop} {H0 : Hp} {N : List Str} {bs : List Bool} {vs : List V} {ds : List D} {x dx : Addr} {c m : Nat} (nx : H0 x = none) (ndx : H0 dx = none) (ne : dx ≠ x) (hd : DomP P H0) (ht : Tbs P E.T H0) (ha : ArgR E P H0 bs vs ds) (hn : ds.length < N.length) :
    RlS (E.at x) P H0 (fun a => P a ∨ a = x ∨ a = dx) (some (.slf c (List.replicate m none)) :: argS bs ds (N.length - 1)) (L2.start N (.ref x :: vs)) (upd (upd H0 dx (.own x)) x (.ins (E.cl c) dx [])) := by
  obtain ⟨l1, l2⟩ := ha.len
  have sm : Same H0 (upd (upd H0 dx (.own x)) x (.ins (E.cl c) dx [])) := fun b o e => by
    rw [upd_ne (ne_of_none e nx), upd_ne (ne_of_none e ndx)]; exact e
  have SM : ∀ E : En, Sm E H0 (upd (upd H0 dx (.own x)) x (.ins (E.cl c) dx [])) := fun E => .of fun b o e => by
    rw [upd_ne (ne_of_none e nx), upd_ne (ne_of_none e ndx)]; exact e
  have wd : ∀ a, (P a ∨ a = x ∨ a = dx) → P a ∨ H0 a = none := fun a z => z.imp id fun z => by
    rcases z with z | z
    · rw [z]; exact nx
    · rw [z]; exact ndx
  have gv : ∀ {i : Nat} {v : V}, vs[i]? = some v → (L2.start N (.ref x :: vs))[i + 1]? = some (some v) := fun {i v} e => by
    unfold L2.start
    have hi : i + 1 < ((V.ref x :: vs).map some).length := by rw [List.length_map, List.length_cons]; have := (List.getElem?_eq_some_iff.mp e).1; omega
    rw [List.getElem?_append_left hi, List.getElem?_map, List.getElem?_cons_succ, e]
    rfl
  have g0 : (L2.start N (.ref x :: vs))[0]? = some (some (.ref x)) := rfl
  have dm : DomP (fun a => P a ∨ a = x ∨ a = dx) (upd (upd H0 dx (.own x)) x (.ins (E.cl c) dx [])) := fun a z e => by
    by_cases h1 : a = x
    · rw [h1, upd_same] at e; cases e
    · rw [upd_ne h1] at e
      by_cases h2 : a = dx
      · rw [h2, upd_same] at e; cases e
      · rw [upd_ne h2] at e
        rcases z with z | z | z
        · exact hd a z e
        · exact h1 z
        · exact h2 z
  have no : ∀ {i : Nat} {o : SV}, (some (SV.slf c (List.replicate m none)) :: argS bs ds (N.length - 1))[i]? = some (some o) → (i = 0 ∧ o = .slf c (List.replicate m none)) ∨ ∃ j v b d, i = j + 1 ∧ vs[j]? = some v ∧ o = (if b then SV.brw d else SV.val d) ∧ (if b = true then RepB E.K E.cl P H0 v d else Rep E.K E.cl P H0 v d) := fun {i o} e => by
    cases i with
    | zero => exact .inl ⟨rfl, by cases e; rfl⟩
    | succ j =>
      obtain ⟨v, b, d, e1, e2, r⟩ := argS_get ha j o e
      exact .inr ⟨j, v, b, d, rfl, e1, e2, r⟩
  refine ⟨dm, hd, fun _ z => .inl z, wd, SM _, ht.keep sm, ht, ?_, fun i d e => ?_, fun i d e => ?_, fun i d e => ?_, fun i j d e a q1 q2 q3 q4 => ?_, fun i c' fs e => ?_, fun i j c c' fs fs' q1 q2 => ?_, fun i c fs e => ?_⟩
  · unfold L2.start argS
    simp only [List.length_append, List.length_map, List.length_replicate, List.length_zipWith, List.length_cons]
    omega
  · rcases no e with ⟨_, z⟩ | ⟨j, v, b, d', rfl, e1, e2, r⟩
    · cases z
    · cases b with
      | true => cases e2
      | false => cases e2; exact ⟨v, gv e1, Rep.same0 sm (Rep.widen wd r)⟩
  · rcases no e with ⟨_, z⟩ | ⟨j, v, b, d', rfl, e1, e2, r⟩
    · cases z
    · cases b with
      | false => cases e2
      | true =>
        cases e2
        refine ⟨v, gv e1, ?_⟩
        rcases (show RepB E.K E.cl P H0 v d from r) with r | ⟨a, ea, r⟩
        · exact .inl (Rep.same0 sm (Rep.widen wd r))
        · exact .inr ⟨a, ea, r.dom, (r.widen wd).same (SM E)⟩
  · rcases no e with ⟨_, z⟩ | ⟨j, v, b, d', rfl, e1, e2, r⟩
    · cases z
    · cases b <;> cases e2
  · rcases no q1 with ⟨_, z⟩ | ⟨j, v, b, d', rfl, e1, e2, r⟩
    · cases z
    · cases b <;> cases e2
  · rcases no e with ⟨rfl, z⟩ | ⟨j, v, b, d', rfl, e1, e2, r⟩
    · cases z
      refine ⟨x, dx, [], g0, .inr (.inl rfl), .inr (.inr rfl), nx, ndx, ne, .inl ⟨upd_same, rfl⟩, Nat.zero_le _, fun _ => ?_, fun j d q => ?_⟩
      · rw [upd_ne ne, upd_same]
      · rw [List.getElem?_replicate] at q
        split at q <;> cases q
    · cases b <;> cases e2
  · rcases no q1 with ⟨rfl, z⟩ | ⟨j, v, b, d', rfl, e1, e2, r⟩
    · rcases no q2 with ⟨rfl, z⟩ | ⟨j, v, b, d', rfl, e1, e2, r⟩
      · rfl
      · cases b <;> cases e2
    · cases b <;> cases e2
  · rcases no e with ⟨rfl, z⟩ | ⟨j, v, b, d', rfl, e1, e2, r⟩
    · exact g0
    · cases b <;> cases e2
/-- an __init__ of the text -/
theorem fn_ini {P : Program} {w : World} {K : PySem.W.Frag} {mg : Str → Option Value} {base : Heap} {k g n c m : Nat} {f : Addr} {name qual : Str} {params : Arguments} {body : List Stmt} {scope : Scope} {dV kV doc pm cdv ct oc : Value} {an od : Option Addr}
    {osl : Array (Option Value)} {N ps : List Str} {ir : Sx} (lk : K.lookup f = some ⟨oc, od, .func (PySem.W.fnOf name qual params body scope dV kV doc pm an cdv ct), osl⟩) (hcd : PySem.W.codeIn K cdv qual = true) (S : FnScope N ps scope) (hps : ps.length = (E.fb g).length + 1)
    (hcs : ∀ (x : Addr) (A : Around) (outer : List Env) (s : Shared) (H : Hp) (XE : XK), Room k (A.deeper (envOfC qual scope s.heap.objs.size f cdv)) → Takes (cxOf (L2.CX P w) P w K mg base N qual scope f cdv A outer s H XE) (fun cls d _ H' => XE cls d H') →
      Cs (E.at x) tb C (cxOf (L2.CX P w) P w K mg base N qual scope f cdv A outer s H XE) (fun cls d _ H' => XE cls d H'))
    (hir : cSs tb C U n body = some ir) (hF : ∀ ds, E.G.F g ds ≠ .no → E.G.F g ds = evM E.G ir (E.fb g) (N.length - 1) c m ds) : FnOk P w K mg base (L2.CX P w) (k + 1) f (PySem.W.fnOf name qual params body scope dV kV doc pm an cdv ct) ps (spI E g c) := by
  have hpl : ps.length ≤ N.length := by have := congrArg List.length S.pre; rw [List.length_take] at this; omega
  refine fn_of lk hcd S (fun vs H Q XE h => ?_) fun A outer s H vs Q XE hr h => ?_
  · obtain ⟨P, H0, ds, x, dx, vs', rfl, _, _, _, _, _, _, ha, _⟩ := h
    rw [hps, List.length_cons, ha.len.1]
  · obtain ⟨P0, H0, ds, x, dx, vs', rfl, nx, ndx, ne, rfl, hd, ht, ha, h⟩ := h
    have tk : Takes (cxOf (L2.CX P w) P w K mg base N qual scope f cdv A outer s (upd (upd H0 dx (.own x)) x (.ins (E.cl c) dx [])) XE) (fun cls d _ H' => XE cls d H') := takes_of rfl rfl rfl rfl
    have hp : PassesOwn (model P w) (A.deeper (envOfC qual scope s.heap.objs.size f cdv)) (envOfC qual scope s.heap.objs.size f cdv) (cxOf (L2.CX P w) P w K mg base N qual scope f cdv A outer s (upd (upd H0 dx (.own x)) x (.ins (E.cl c) dx [])) XE).xe := passes_of (X := cxOf (L2.CX P w) P w K mg base N qual scope f cdv A outer s (upd (upd H0 dx (.own x)) x (.ins (E.cl c) dx [])) XE) rfl
    refine ⟨_, (st_all (hcs x A outer s _ XE hr tk) hp n).2 body ir hir, some (.slf c (List.replicate m none)) :: argS (E.fb g) ds (N.length - 1), P0, H0, fun a => P0 a ∨ a = x ∨ a = dx, start_me nx ndx ne hd ht ha (by rw [ha.len.2]; omega), ?_⟩
    have hn : E.G.F g ds ≠ .no := fun z => by rw [z] at h; exact h
    rw [hF ds hn] at h
    unfold evM at h
    rw [if_pos ha.len.2.symm] at h
    show EndsR (E.at x) _ P0 H0 _ _ _ (evS E.G ir (some (.slf c (List.replicate m none)) :: argS (E.fb g) ds (N.length - 1)))
    cases e : evS E.G ir (some (.slf c (List.replicate m none)) :: argS (E.fb g) ds (N.length - 1)) with
    | nx st' =>
      rw [e] at h
      intro P' σ' H' r _
      cases e1 : (st'[0]? : Option (Option SV)) with
      | none => simp only [insO, e1] at h
      | some o =>
        simp only [insO, e1] at h
        cases o with
        | none => exact h.elim
        | some sv =>
          cases sv with
          | slf c' fs =>
            cases e2 : allS fs with
            | none => simp only [e2] at h
            | some l =>
              simp only [e2] at h
              cases l with
              | nil => exact h.elim
              | cons d1 ds1 =>
                by_cases hc : c' = c
                · simp only [if_pos hc] at h
                  subst hc
                  have ef := allS_some e2
                  obtain ⟨a, dx', vs, h1, h2, h3, h4, h5, hne, h6, h7, h9, h8⟩ := r.slf 0 c' fs e1
                  have ea := r.me 0 c' fs e1
                  rw [h1] at ea
                  have ea : a = x := by cases ea; rfl
                  subst ea
                  obtain ⟨ws, ew, rs⟩ := reps_of (K := E.K) (cl := E.cl) (P := P') (H := H') (ds := d1 :: ds1) (vs := vs) (by rw [ef, List.length_map] at h7; exact h7) fun j d q => h8 j d (by rw [ef, List.getElem?_map, q]; rfl)
                  subst ew
                  refine (show ∀ H', Sm E H0 H' → Rep E.K E.cl P0 H' (.ref a) (.ins c' (d1 :: ds1)) → Q .non H' from h) H' ⟨r.same.get, r.same.free, r.same.tab⟩ (.ins h6 (fun z => hd a z nx) (fun z => hd dx' z h5) (fun z => ?_) (Reps.anti r.sub rs))
                  rw [z] at rs
                  cases rs
                · simp only [if_neg hc] at h
          | _ => exact h.elim
    | bk st' => rw [e] at h; exact (show False from h).elim
    | ct st' => rw [e] at h; exact (show False from h).elim
    | rt d => rw [e] at h; exact (show False from h).elim
    | ex y st' => rw [e] at h; exact fun P' σ' H' d r q => (show ∀ d H', Sm E H0 H' → XAt E P0 H' y d → XE (.ref (E.xc y.c)) d H' from h) d H' ⟨r.same.get, r.same.free, r.same.tab⟩ q
    | no => rw [e] at h; exact (show False from h).elim
end
end Z

/-! Zh: the program's defs together: tables, what the head must tell, one step of the induction over the defs. -/
namespace Z
open PySem PySem.Spec PyProof.Rows L2
/-! ### a def as it stands in the heap -/
structure Dd where
  adr : PySem.W.Frag → Addr
  name : Str
  qual : Str
  params : Arguments
  body : List Stmt
  scope : Scope
def Dd.see (K : PySem.W.Frag) (d : Dd) : He.FnW := match K.lookup (d.adr K) with
  | some o => (match o.data with
    | .func q => some (q.name, q.qualname, q.params, q.body, q.scope, q.globals, q.closure, q.builtins)
    | _ => none)
  | none => none
def Dd.want (d : Dd) : He.FnW := some (d.name, d.qual, d.params, .stmts d.body, d.scope, mainGlobals, [], builtinsNs)
def noneV : Value → Bool
  | .none => true
  | _ => false
def Dd.okB (K : PySem.W.Frag) (d : Dd) : Bool := PySem.W.keepIn K (.ref (d.adr K)) && (PySem.W.isFn K (.ref (d.adr K)) && match K.lookup (d.adr K) with
  | some o => (match o.data with
    | .func q => PySem.W.codeIn K q.code d.qual && noneV q.defaults
    | _ => false)
  | none => false)
structure DdOk (K : PySem.W.Frag) (d : Dd) : Prop where
  ex : ∃ oc od osl kV doc pm an cdv ct, K.lookup (d.adr K) = some ⟨oc, od, .func (PySem.W.fnOf d.name d.qual d.params d.body d.scope .none kV doc pm an cdv ct), osl⟩ ∧ PySem.W.codeIn K cdv d.qual = true
  kp : PySem.W.keepIn K (.ref (d.adr K)) = true
  fn : PySem.W.isFn K (.ref (d.adr K)) = true
theorem band {a b : Bool} (h : (a && b) = true) : a = true ∧ b = true := Bool.and_eq_true_iff.mp h
theorem ddOk {K : PySem.W.Frag} {d : Dd} (e : d.see K = d.want) (c : d.okB K = true) : DdOk K d := by
  obtain ⟨c1, c⟩ := band c
  obtain ⟨c2, c⟩ := band c
  refine ⟨?_, c1, c2⟩
  unfold Dd.see at e
  cases q : K.lookup (d.adr K) with
  | none => rw [q] at c; cases c
  | some o =>
    obtain ⟨oc, od, dt, osl⟩ := o
    rw [q] at c e
    cases dt with
    | func fd =>
      obtain ⟨n1, n2, n3, n4, n5, n6, n7, n8, n9, n10, n11, n12, n13, n14, n15⟩ := fd
      have e2 : (some (n1, n2, n3, n4, n5, n6, n7, n15) : He.FnW) = d.want := e
      unfold Dd.want at e2
      simp only [Option.some.injEq, Prod.mk.injEq] at e2
      obtain ⟨h1, h2, h3, h4, h5, h6, h7, h8⟩ := e2
      subst h1 h2 h3 h4 h5 h6 h7 h8
      obtain ⟨k1, k2⟩ := band (show (PySem.W.codeIn K n13 d.qual && noneV n8) = true from c)
      have e8 : n8 = .none := by
        cases n8 <;> first | rfl | cases k2
      subst e8
      exact ⟨oc, od, osl, n9, n10, n11, n12, n13, n14, rfl, k1⟩
    | _ => cases c
/-! ### the head's hook -/
structure SaysZ (fn : List Dd) (tf : List He.Defn) (ex : PySem.W.Frag → Bool) (h : Heap) (K : PySem.W.Frag) : Prop where
  defs : ∀ d ∈ fn, DdOk K d
  more : ex K = true
  hd : ∀ p ∈ tf, PySem.W.codeHdIn K (He.cT K p).1 (He.cT K p).2 = true
  out : ∀ p ∈ tf, K.lookup (He.cT K p).2 = none
  empty : ∀ p ∈ tf, h.get? (He.cT K p).2 = some { cls := .none, data := .fields #[] }
abbrev AlZ : Type := List He.FnW × Bool
def obsZ (n : Nat) (fn : List Dd) (tf : List He.Defn) (ex : PySem.W.Frag → Bool) (g : Addr → Option Obj) : AlZ :=
  (fn.map fun d => d.see (He.frT g (He.asD g n)), (fn.all fun d => d.okB (He.frT g (He.asD g n))) && (ex (He.frT g (He.asD g n)) && He.tabsB g tf (He.frT g (He.asD g n))))
def valZ (fn : List Dd) : AlZ := (fn.map Dd.want, true)
theorem map_at {α β : Type} {f g : α → β} : ∀ {l : List α}, l.map f = l.map g → ∀ a ∈ l, f a = g a
  | b :: r, h, a, ha => by
    rw [List.map_cons, List.map_cons] at h
    injection h with h1 h2
    rcases List.mem_cons.mp ha with z | z
    · rw [z]; exact h1
    · exact map_at h2 a z
theorem saysZ_of {n : Nat} {fn : List Dd} {tf : List He.Defn} {ex : PySem.W.Frag → Bool} {h : Heap} (e : obsZ n fn tf ex h.get? = valZ fn) : SaysZ fn tf ex h (He.frT h.get? (He.asD h.get? n)) := by
  have e1 := congrArg (fun z : AlZ => z.1) e
  have e2 := congrArg (fun z : AlZ => z.2) e
  obtain ⟨h1, h2⟩ := band e2
  obtain ⟨h3, h4⟩ := band h2
  have key : ∀ p ∈ tf, PySem.W.codeHdIn (He.frT h.get? (He.asD h.get? n)) (He.cT (He.frT h.get? (He.asD h.get? n)) p).1 (He.cT (He.frT h.get? (He.asD h.get? n)) p).2 = true ∧ ∃ o, h.get? (He.cT (He.frT h.get? (He.asD h.get? n)) p).2 = some o ∧ He.emptyTab o = true := fun p hp => by
    obtain ⟨k3, k4⟩ := band (List.all_eq_true.mp h4 p hp)
    refine ⟨k3, ?_⟩
    split at k4
    · rename_i o q; exact ⟨o, q, k4⟩
    · cases k4
  refine ⟨fun d hd => ddOk (map_at e1 d hd) (List.all_eq_true.mp h1 d hd), h3, fun p hp => (key p hp).1, fun p hp => ?_, fun p hp => ?_⟩
  · obtain ⟨_, o, q, z⟩ := key p hp; exact He.frT_none q z
  · obtain ⟨_, o, q, z⟩ := key p hp; rw [q, He.emptyTab_eq z]
def hookZ (n : Nat) (fn : List Dd) (tf : List He.Defn) (ex : PySem.W.Frag → Bool) : PySem.W.Hook where
  α := AlZ
  obs := fun s => obsZ n fn tf ex s.heap.get?
  val := fun _ => valZ fn
  says := fun _ h => ∃ K : PySem.W.Frag, K.In h ∧ SaysZ fn tf ex h K
  of := fun _ _ e => ⟨_, He.frT_in, saysZ_of e⟩
  keeps := fun _ _ _ ⟨K, hK, c⟩ k => ⟨K, PySem.W.Frag.In.keeps hK k, ⟨c.defs, c.more, c.hd, c.out, fun p hp => k _ _ (c.empty p hp)⟩⟩
theorem obsZ_eq {n : Nat} {fn : List Dd} {tf : List He.Defn} {ex : PySem.W.Frag → Bool} {g : Addr → Option Obj} {s : Shared} (h : ∀ a, g a = s.heap.get? a) : obsZ n fn tf ex g = (hookZ n fn tf ex).obs s := by
  have e : g = s.heap.get? := funext h
  rw [e] <;> rfl
/-! ### the tables of a program -/
inductive Kd where
  | fn (d : Dd) | mk (c : Nat) (d : Dd)
def Kd.d : Kd → Dd
  | .fn d => d
  | .mk _ d => d
structure Pt where
  clN : List Str
  atN : List Str
  sl : List ((Nat × Nat) × Nat)
  pr : List ((Nat × Nat) × Nat)
  mt : List ((Nat × Nat) × Nat)
  ln : List (Nat × Nat)
  fb : Nat → List Bool
  cst : List (Str × D)
  fns : List (Str × Nat)
  lams : List (He.Defn × Str)
  defs : List (Nat × Kd)
  nob : List Str
def Pt.cl (T : Pt) (K : PySem.W.Frag) (c : Nat) : Addr := He.ga K (T.clN.getD c Str.empty)
def Pt.pg (T : Pt) (F : Nat → List D → R D) : Pg := ⟨F, fun c i => T.sl.lookup (c, i), fun c i => T.pr.lookup (c, i), fun c i => T.mt.lookup (c, i), fun c => T.ln.lookup c, T.clN.length⟩
def Pt.en (T : Pt) (F : Nat → List D → R D) (K : PySem.W.Frag) : En :=
  { K := K, cl := T.cl K, xc := fun _ => 0, xn := fun _ => Str.empty, fb := T.fb, T := T.lams.map fun p => ((He.cT K p.1).2, p.2), G := T.pg F, me := 0 }
/-- the place of a def in the order; its level -/
def posOf : List (Nat × Kd) → Nat → Option Nat
  | [], _ => none
  | p :: r, f => if p.1 = f then some 0 else (posOf r f).map (· + 1)
def Pt.lev (T : Pt) (f : Nat) : Nat := 8 + 2 * (posOf T.defs f).getD 0
/-! ### facts of the text's heap, as Bools -/
open PySem.W in
def sclsB (K : PySem.W.Frag) (C : Addr) : Bool := plainGet K C Str.empty && (isClsIn K C && (plainOver K C && He.eqO (findIn K (.ref C) "__setattr__") (some (some (.builtin "object.__setattr__")))))
open PySem.W in
def sisiB (K : PySem.W.Frag) (C : Addr) : Bool := He.eqO (findIn K (.ref C) "__class__") (some (some (.builtin "object.__class__"))) && (He.eqO (specialIn K (.builtin "object.__class__") "__get__") (some (some (.builtin "getset_descriptor.__get__"))) &&
  (decide (takesIn K (.builtin "object.__class__") = some true) && decide (mroIn K C (.type "object") = some true)))
open PySem.W in
def slotB (K : PySem.W.Frag) (C : Addr) (n : Str) (j : Nat) : Bool := He.eqO (findIn K (.ref C) n) (some (some (.ref (He.ma K C n)))) && (He.eqO (specialIn K (.ref (He.ma K C n)) "__get__") (some (some (.builtin "member_descriptor.__get__"))) &&
  (decide (takesIn K (.ref (He.ma K C n)) = some true) && (decide (typeIn K (.ref (He.ma K C n)) = some (.type "member_descriptor")) && (decide (slotIn K (He.ma K C n) C = some j) && decide (j < 1000)))))
/-- the function of a property -/
def prA (x n : Str) (K : PySem.W.Frag) : Addr := match PySem.W.recIn K (He.ma K (He.ga K x) n) "property" with
  | some (.ref g :: _) => g
  | _ => 0
open PySem.W in
def propB (K : PySem.W.Frag) (x n : Str) : Bool := He.eqO (findIn K (.ref (He.ga K x)) n) (some (some (.ref (He.ma K (He.ga K x) n)))) && (He.eqO (specialIn K (.ref (He.ma K (He.ga K x) n)) "__get__") (some (some (.builtin "property.__get__"))) &&
  (decide (takesIn K (.ref (He.ma K (He.ga K x) n)) = some true) && (match recIn K (He.ma K (He.ga K x) n) "property" with
    | some (.ref g :: _) => decide (g = prA x n K)
    | _ => false)))
def tysL : List (Ty × String) := [(.int, "int"), (.bool, "bool"), (.str, "str"), (.tuple, "tuple"), (.list, "list"), (.dict, "dict")]
def prims : List D := [.non, .bl true, .int 0, .str Str.empty, .tup [], .lst [], .dic [] []]
def isiB (K : PySem.W.Frag) (cls : List Str) (t : Ty) (u : Value) : Bool := (prims.all fun d => decide (PySem.W.kitOne K (.type (tyN d)) u = some (isTy t d))) && cls.zipIdx.all fun p => decide (PySem.W.kitOne K (.ref (He.ga K p.1)) u = some (isTy t (.ins p.2 [])))
def gloB (K : PySem.W.Frag) (x : Str) : Bool := (He.Fa.glo x).ok K
def cstB (K : PySem.W.Frag) (p : Str × D) : Bool := match p.2 with
  | .int i => (He.Fa.int p.1 i).ok K
  | .str z => (He.Fa.str p.1 z).ok K
  | _ => false
/-- the written things that the tables speak of -/
def Pt.knB (T : Pt) (p : (Nat × Nat) × Nat) : Bool := decide (p.1.1 < T.clN.length) && decide (p.1.2 < T.atN.length)
def Pt.okA (T : Pt) (K : PySem.W.Frag) (f : Nat) : Addr := match T.defs.lookup f with
  | some k => k.d.adr K
  | none => 0
def fnB (T : Pt) (K : PySem.W.Frag) (p : Str × Nat) : Bool := gloB K p.1 && match T.defs.lookup p.2 with
  | some (.fn d) => decide (d.adr K = He.ga K p.1)
  | some (.mk c d) => (He.Fa.mkr p.1).ok K && (decide (d.adr K = He.ma K (He.ga K p.1) "__init__") && decide (T.clN[c]? = some p.1))
  | none => false
def mtB (T : Pt) (K : PySem.W.Frag) (p : (Nat × Nat) × Nat) : Bool := (He.Fa.meth (T.clN.getD p.1.1 Str.empty) (T.atN.getD p.1.2 Str.empty)).ok K && decide (T.okA K p.2 = He.ma K (T.cl K p.1.1) (T.atN.getD p.1.2 Str.empty))
def lnB (T : Pt) (K : PySem.W.Frag) (p : Nat × Nat) : Bool := He.eqO (PySem.W.findIn K (.ref (T.cl K p.1)) "__len__") (some (some (.ref (T.okA K p.2))))
def Pt.exB (T : Pt) (K : PySem.W.Frag) : Bool :=
  (T.clN.all fun x => gloB K x && (sclsB K (He.ga K x) && sisiB K (He.ga K x))) && ((tysL.all fun p => isiB K T.clN p.1 (.type p.2)) && ((T.clN.zipIdx.all fun p => isiB K T.clN (.own p.2) (.ref (He.ga K p.1))) &&
  ((T.sl.all fun p => slotB K (T.cl K p.1.1) (T.atN.getD p.1.2 Str.empty) p.2) && ((T.pr.all fun p => propB K (T.clN.getD p.1.1 Str.empty) (T.atN.getD p.1.2 Str.empty) && decide (T.okA K p.2 = prA (T.clN.getD p.1.1 Str.empty) (T.atN.getD p.1.2 Str.empty) K)) &&
  ((T.mt.all fun p => mtB T K p) && ((T.ln.all fun p => lnB T K p) && ((T.cst.all fun p => cstB K p) && ((T.fns.all fun p => fnB T K p) && ((T.nob.all fun x => (He.Fa.free x).ok K) &&
  (T.lams.zipIdx.all fun p => T.lams.zipIdx.all fun q => decide (p.2 = q.2) || decide ((He.cT K p.1.1).2 ≠ (He.cT K q.1.1).2)) && (K.all fun q => !decide (q.2.cls = .type "list")))))))))))
/-- the text's own facts of the tables -/
def Pt.okT (T : Pt) : Bool := (T.sl.all T.knB) && ((T.pr.all fun p => T.knB p && (decide (T.fb p.2 = [false]) && (match T.defs.lookup p.2 with | some (.fn _) => true | _ => false))) && ((T.mt.all fun p => T.knB p && (match T.defs.lookup p.2 with | some (.fn _) => true | _ => false)) &&
  ((T.ln.all fun p => decide (p.1 < T.clN.length) && (decide (T.fb p.2 = [false]) && (match T.defs.lookup p.2 with | some (.fn _) => true | _ => false))) && !T.nob.contains (Str.ofString "__name__"))))
end Z

/-! Zj: one def after another. -/
namespace Z
open PySem PySem.Spec PyProof.Rows L2
theorem memL {α β : Type} [BEq α] [LawfulBEq α] : ∀ {l : List (α × β)} {a : α} {b : β}, l.lookup a = some b → (a, b) ∈ l
  | (c, d) :: r, a, b, h => by
    rw [List.lookup_cons] at h
    cases e : (a == c) with
    | true =>
      rw [e] at h
      cases h
      rw [eq_of_beq e]
      exact List.mem_cons_self
    | false =>
      rw [e] at h
      exact List.mem_cons_of_mem _ (memL h)
structure Fx (T : Pt) (K : PySem.W.Frag) (mg : Str → Option Value) : Prop where
  cls : ∀ (c : Nat) (x : Str), T.clN[c]? = some x → mg x = some (.ref (He.ga K x)) ∧ SlX.SCls K (He.ga K x) ∧ SlX.SIsi K (He.ga K x)
  tys : ∀ (t : Ty) (n : String), (t, n) ∈ tysL → isiB K T.clN t (.type n) = true
  own : ∀ (c : Nat) (x : Str), T.clN[c]? = some x → isiB K T.clN (.own c) (.ref (He.ga K x)) = true
  sl : ∀ (c i j : Nat), T.sl.lookup (c, i) = some j → (∃ x : Str, T.clN[c]? = some x) ∧ ∀ n : Str, T.atN[i]? = some n → ∃ p, SlX.Slot1 K (T.cl K c) n p j
  pr : ∀ (c i f : Nat), T.pr.lookup (c, i) = some f → (∃ x : Str, T.clN[c]? = some x) ∧ T.fb f = [false] ∧ (∃ d, T.defs.lookup f = some (.fn d)) ∧ ∀ n : Str, T.atN[i]? = some n →
    ∃ p, PySem.W.findIn K (.ref (T.cl K c)) n = some (some (.ref p)) ∧ PySem.W.specialIn K (.ref p) "__get__" = some (some (.builtin "property.__get__")) ∧ PySem.W.takesIn K (.ref p) = some true ∧ ∃ rest, PySem.W.recIn K p "property" = some (.ref (T.okA K f) :: rest)
  mt : ∀ (c i f : Nat), T.mt.lookup (c, i) = some f → (∃ x : Str, T.clN[c]? = some x) ∧ (∃ d, T.defs.lookup f = some (.fn d)) ∧ ∀ n : Str, T.atN[i]? = some n → Meth K (T.cl K c) n (T.okA K f)
  ln : ∀ (c f : Nat), T.ln.lookup c = some f → T.fb f = [false] ∧ (∃ d, T.defs.lookup f = some (.fn d)) ∧ PySem.W.findIn K (.ref (T.cl K c)) "__len__" = some (some (.ref (T.okA K f)))
  cst : ∀ (x : Str) (d : D), T.cst.lookup x = some d → ∃ v u, mg x = some u ∧ RelV v u ∧ ∀ cl P H, Rep K cl P H v d
  fns : ∀ (x : Str) (f : Nat), T.fns.lookup x = some f → mg x = some (.ref (He.ga K x)) ∧ ((∃ d, T.defs.lookup f = some (.fn d) ∧ d.adr K = He.ga K x) ∨ ∃ c d, T.defs.lookup f = some (.mk c d) ∧ Mk K (He.ga K x) (d.adr K) ∧ T.cl K c = He.ga K x)
  dd : ∀ (f : Nat) (k : Kd), T.defs.lookup f = some k → DdOk K k.d
  nob : ∀ x ∈ T.nob, mg x = none
  nnm : T.nob.contains (Str.ofString "__name__") = false
  lam : ∀ p ∈ T.lams, ∀ q ∈ T.lams, (He.cT K p.1).2 = (He.cT K q.1).2 → p.2 = q.2
  nol : ∀ (a : Addr) (o : Obj), K.lookup a = some o → o.cls ≠ .type "list"
section
variable {T : Pt} {K : PySem.W.Frag} {mg : Str → Option Value} {h : Heap}
theorem getD_of {l : List Str} {c : Nat} {x : Str} (e : l[c]? = some x) : l.getD c Str.empty = x := by
  rw [List.getD_eq_getElem?_getD, e]; rfl
theorem getD_lt {l : List Str} {c : Nat} (e : c < l.length) : l[c]? = some (l.getD c Str.empty) := by
  rw [List.getD_eq_getElem?_getD, List.getElem?_eq_getElem e]; rfl
theorem kdMatch {o : Option Kd} (h : (match o with | some (.fn _) => true | _ => false) = true) : ∃ d, o = some (.fn d) := by
  cases o with
  | none => cases h
  | some k =>
    cases k with
    | fn d => exact ⟨d, rfl⟩
    | mk c d => cases h
theorem fx_of (X : K.In h) (G : h.Ns mainGlobals mg) (c : T.exB K = true) (t : T.okT = true) (hd : ∀ d ∈ T.defs.map (fun p => p.2.d), DdOk K d) : Fx T K mg := by
  obtain ⟨c1, c⟩ := band c
  obtain ⟨c2, c⟩ := band c
  obtain ⟨c3, c⟩ := band c
  obtain ⟨c4, c⟩ := band c
  obtain ⟨c5, c⟩ := band c
  obtain ⟨c6, c⟩ := band c
  obtain ⟨c7, c⟩ := band c
  obtain ⟨c8, c⟩ := band c
  obtain ⟨c9, c⟩ := band c
  obtain ⟨c, c12⟩ := band c
  obtain ⟨c10, c11⟩ := band c
  obtain ⟨t1, t⟩ := band t
  obtain ⟨t2, t⟩ := band t
  obtain ⟨t3, t⟩ := band t
  obtain ⟨t4, t5⟩ := band t
  have lt_of : ∀ {c : Nat}, c < T.clN.length → ∃ x : Str, T.clN[c]? = some x := fun {c} hc => ⟨T.clN.getD c Str.empty, getD_lt hc⟩
  refine ⟨fun c x e => ?_, fun ty n e => List.all_eq_true.mp c2 (ty, n) e, fun c x e => ?_, fun c i j e => ?_, fun c i f e => ?_, fun c i f e => ?_, fun c f e => ?_, fun x d e => ?_, fun x f e => ?_, fun f k e => hd _ (List.mem_map.mpr ⟨_, memL e, rfl⟩), fun x e => ?_, by simpa using t5, fun p hp q hq e => ?_, fun a o e => by have z := List.all_eq_true.mp c12 (a, o) (memL e); simpa using z⟩
  · obtain ⟨a1, a2⟩ := band (List.all_eq_true.mp c1 x (List.mem_of_getElem? e))
    obtain ⟨a2, a3⟩ := band a2
    obtain ⟨b1, a2⟩ := band a2
    obtain ⟨b2, a2⟩ := band a2
    obtain ⟨b3, b4⟩ := band a2
    obtain ⟨d1, a3⟩ := band a3
    obtain ⟨d2, a3⟩ := band a3
    obtain ⟨d3, d4⟩ := band a3
    exact ⟨He.glo_ok X G a1, ⟨b1, b2, b3, He.eqO_ok b4⟩, ⟨He.eqO_ok d1, He.eqO_ok d2, of_decide_eq_true d3, of_decide_eq_true d4⟩⟩
  · exact List.all_eq_true.mp c3 (x, c) (List.mk_mem_zipIdx_iff_getElem?.mpr e)
  · obtain ⟨k1, k2⟩ := band (List.all_eq_true.mp t1 _ (memL e))
    refine ⟨lt_of (of_decide_eq_true k1), fun n hn => ⟨He.ma K (T.cl K c) n, ?_⟩⟩
    have s := List.all_eq_true.mp c4 _ (memL e)
    simp only [getD_of hn] at s
    obtain ⟨s1, s⟩ := band s
    obtain ⟨s2, s⟩ := band s
    obtain ⟨s3, s⟩ := band s
    obtain ⟨s4, s⟩ := band s
    obtain ⟨s5, s6⟩ := band s
    exact ⟨He.eqO_ok s1, He.eqO_ok s2, of_decide_eq_true s3, of_decide_eq_true s4, of_decide_eq_true s5, of_decide_eq_true s6⟩
  · obtain ⟨k1, k2⟩ := band (List.all_eq_true.mp t2 _ (memL e))
    obtain ⟨k3, k4⟩ := band k1
    obtain ⟨k5, k6⟩ := band k2
    refine ⟨lt_of (of_decide_eq_true k3), of_decide_eq_true k5, kdMatch k6, fun n hn => ⟨He.ma K (T.cl K c) n, ?_⟩⟩
    obtain ⟨s, s0⟩ := band (List.all_eq_true.mp c5 _ (memL e))
    have s0 := of_decide_eq_true s0
    simp only [getD_of hn] at s s0
    obtain ⟨s1, s⟩ := band s
    obtain ⟨s2, s⟩ := band s
    obtain ⟨s3, s4⟩ := band s
    refine ⟨He.eqO_ok s1, He.eqO_ok s2, of_decide_eq_true s3, ?_⟩
    rw [s0]
    split at s4
    · rename_i g rest q
      exact ⟨rest, by rw [← of_decide_eq_true s4]; exact q⟩
    · cases s4
  · obtain ⟨k1, k2⟩ := band (List.all_eq_true.mp t3 _ (memL e))
    obtain ⟨k3, k4⟩ := band k1
    refine ⟨lt_of (of_decide_eq_true k3), kdMatch k2, fun n hn => ?_⟩
    obtain ⟨s, s0⟩ := band (List.all_eq_true.mp c6 _ (memL e))
    have s0 := of_decide_eq_true s0
    simp only [getD_of hn] at s s0
    rw [s0]
    exact He.meth_ok s
  · obtain ⟨k1, k2⟩ := band (List.all_eq_true.mp t4 _ (memL e))
    obtain ⟨k3, k4⟩ := band k2
    exact ⟨of_decide_eq_true k3, kdMatch k4, He.eqO_ok (List.all_eq_true.mp c7 _ (memL e))⟩
  · have s : cstB K (x, d) = true := List.all_eq_true.mp c8 _ (memL e)
    unfold cstB at s
    cases d with
    | int i => obtain ⟨t, q⟩ := He.int_ok X G s; exact ⟨.int i, _, q, ⟨t, rfl⟩, fun cl P H => .int i⟩
    | str z => obtain ⟨t, q⟩ := He.str_ok X G s; exact ⟨.str z, _, q, ⟨t, rfl⟩, fun cl P H => .str z⟩
    | _ => cases s
  · obtain ⟨s1, s2⟩ := band (show (gloB K x && _) = true from List.all_eq_true.mp c9 _ (memL e))
    refine ⟨He.glo_ok X G s1, ?_⟩
    split at s2
    · rename_i d q; exact .inl ⟨d, q, of_decide_eq_true s2⟩
    · rename_i c d q
      obtain ⟨s3, s4⟩ := band s2
      obtain ⟨s5, s6⟩ := band s4
      refine .inr ⟨c, d, q, ?_, ?_⟩
      · rw [of_decide_eq_true s5]; exact He.mkr_ok s3
      · unfold Pt.cl; rw [getD_of (of_decide_eq_true s6)]
    · cases s2
  · exact He.free_ok X G (List.all_eq_true.mp c10 _ e)
  · obtain ⟨i, hi⟩ := List.mem_iff_getElem?.mp hp
    obtain ⟨j, hj⟩ := List.mem_iff_getElem?.mp hq
    have s := List.all_eq_true.mp (List.all_eq_true.mp c11 (p, i) (List.mk_mem_zipIdx_iff_getElem?.mpr hi)) (q, j) (List.mk_mem_zipIdx_iff_getElem?.mpr hj)
    rcases Bool.or_eq_true_iff.mp s with s | s
    · have z : i = j := of_decide_eq_true s
      subst z
      rw [hi] at hj
      cases hj
      rfl
    · exact absurd e (of_decide_eq_true s)
end
/-! ### isinstance -/
theorem isTy_prim {d : D} (t : Ty) (h : ∀ c fs, d ≠ .ins c fs) : ∃ e ∈ prims, tyN e = tyN d ∧ isTy t e = isTy t d := by
  cases d with
  | ins c fs => exact absurd rfl (h c fs)
  | non => exact ⟨.non, by simp [prims], rfl, rfl⟩
  | bl b => exact ⟨.bl true, by simp [prims], rfl, by cases t <;> rfl⟩
  | int b => exact ⟨.int 0, by simp [prims], rfl, by cases t <;> rfl⟩
  | str b => exact ⟨.str Str.empty, by simp [prims], rfl, by cases t <;> rfl⟩
  | tup b => exact ⟨.tup [], by simp [prims], rfl, by cases t <;> rfl⟩
  | lst b => exact ⟨.lst [], by simp [prims], rfl, by cases t <;> rfl⟩
  | dic b c => exact ⟨.dic [] [], by simp [prims], rfl, by cases t <;> rfl⟩
theorem isiOk_of {T : Pt} {F : Nat → List D → R D} {X : Cx} {mg : Str → Option Value} (fx : Fx T X.K mg) {t : Ty} {u : Value} (s : isiB X.K T.clN t u = true) : IsiOk (T.en F X.K) X t u := by
  obtain ⟨s1, s2⟩ := band s
  refine ⟨fun d hd => ?_, fun c fs hc => ?_⟩
  · obtain ⟨e, h1, h2, h3⟩ := isTy_prim t hd
    rw [← h2, ← h3]
    exact of_decide_eq_true (List.all_eq_true.mp s1 e h1)
  · have q := getD_lt (show c < T.clN.length from hc)
    obtain ⟨_, k1, k2⟩ := fx.cls c _ q
    refine ⟨k1, k2, ?_⟩
    have z : isTy t (.ins c fs) = isTy t (.ins c []) := by cases t <;> rfl
    rw [z]
    exact of_decide_eq_true (List.all_eq_true.mp s2 (_, c) (List.mk_mem_zipIdx_iff_getElem?.mpr q))
theorem tyOf_mem {x : Str} {t : Ty} {n : String} (h : tyOf x = some (t, n)) : (t, n) ∈ tysL := by
  unfold tyOf at h
  repeat' split at h
  all_goals first | (cases h; simp [tysL]) | cases h
/-! ### a def's own data -/
structure Lf where
  id : Nat
  kd : Kd
  N : List Str
  ps : List Str
  fns : List (Str × Nat)
  ats : List (Str × Nat)
  cls : List (Str × Nat)
  lam : Option Nat
  U : Du
  fuel : Nat
  ir : Sx
def Pt.mfs (T : Pt) (i : Nat) : List Nat := T.mt.filterMap fun q => if q.1.2 = i then some q.2 else none
def Lf.tb (l : Lf) (T : Pt) : Tb := ⟨l.fns, l.ats, l.cls, T.cst, T.fb, T.mfs, T.nob⟩
def Lf.sc (l : Lf) : Sc := ⟨l.N, l.kd.d.scope, fun _ => true, l.lam.isSome⟩
/-- whom it calls stands lower -/
def Lf.okB (l : Lf) (T : Pt) : Bool := (l.fns.all fun p => decide (T.fns.lookup p.1 = some p.2) && decide (T.lev p.2 + 2 ≤ T.lev l.id)) && ((l.ats.all fun p => decide (T.atN[p.2]? = some p.1) && ((T.pr.all fun q => !decide (q.1.2 = p.2) || decide (T.lev q.2 + 2 ≤ T.lev l.id)) &&
  (T.mt.all fun q => !decide (q.1.2 = p.2) || decide (T.lev q.2 + 2 ≤ T.lev l.id)))) && ((l.cls.all fun p => decide (T.clN[p.2]? = some p.1)) && (T.ln.all fun q => decide (T.lev q.2 + 2 ≤ T.lev l.id))))
section
variable {T : Pt} {F : Nat → List D → R D} {K : PySem.W.Frag} {P : Program} {w : World} {mg : Str → Option Value} {base : Heap}
def Good (T : Pt) (F : Nat → List D → R D) (P : Program) (w : World) (K : PySem.W.Frag) (mg : Str → Option Value) (base : Heap) (f : Nat) : Prop :=
  (∀ d, T.defs.lookup f = some (.fn d) → FnR P w K mg base (L2.CX P w) (T.lev f) (d.adr K) (spF (T.en F K) f)) ∧ ∀ c d, T.defs.lookup f = some (.mk c d) → FnR P w K mg base (L2.CX P w) (T.lev f) (d.adr K) (spI (T.en F K) f c)
structure EqE (E E' : En) : Prop where
  K : E'.K = E.K
  cl : E'.cl = E.cl
  T : E'.T = E.T
  xc : E'.xc = E.xc
  xn : E'.xn = E.xn
  fb : E'.fb = E.fb
  F : E'.G.F = E.G.F
theorem sm_eq {E E' : En} (h : EqE E E') {H H' : Hp} : Sm E' H H' = Sm E H H' := propext ⟨fun s => ⟨s.get, s.free, by rw [← h.T]; exact s.tab⟩, fun s => ⟨s.get, s.free, by rw [h.T]; exact s.tab⟩⟩
theorem argR_eq {E E' : En} (h : EqE E E') {P : Addr → Prop} {H : Hp} : ∀ {bs : List Bool} {vs : List V} {ds : List D}, ArgR E' P H bs vs ds = ArgR E P H bs vs ds
  | [], [], [] => rfl
  | b :: bs, v :: vs, d :: ds => by
    show ((if b = true then RepB E'.K E'.cl P H v d else Rep E'.K E'.cl P H v d) ∧ ArgR E' P H bs vs ds) = ((if b = true then RepB E.K E.cl P H v d else Rep E.K E.cl P H v d) ∧ ArgR E P H bs vs ds)
    rw [argR_eq h, h.K, h.cl]
  | [], _ :: _, _ => rfl
  | [], [], _ :: _ => rfl
  | _ :: _, [], _ => rfl
  | _ :: _, _ :: _, [] => rfl
theorem xAt_eq {E E' : En} (h : EqE E E') {P : Addr → Prop} {H : Hp} {x : Xc} {d : Option Addr} : XAt E' P H x d = XAt E P H x d := by
  unfold XAt
  rw [h.xn, h.K, h.cl]
theorem spF_eq {E E' : En} (h : EqE E E') {f : Nat} : spF E' f = spF E f := by
  funext vs H Q XE
  unfold spF
  simp only [sm_eq h, argR_eq h, xAt_eq h, h.K, h.cl, h.T, h.xc, h.xn, h.fb, h.F]
theorem spI_eq {E E' : En} (h : EqE E E') {f c : Nat} : spI E' f c = spI E f c := by
  funext vs H Q XE
  unfold spI
  simp only [sm_eq h, argR_eq h, xAt_eq h, h.K, h.cl, h.T, h.xc, h.xn, h.fb, h.F]
theorem spF_at {E : En} {x : Addr} {f : Nat} : spF (E.at x) f = spF E f := spF_eq (E := E) (E' := E.at x) ⟨rfl, rfl, rfl, rfl, rfl, rfl, rfl⟩
theorem spI_at {E : En} {x : Addr} {f c : Nat} : spI (E.at x) f c = spI E f c := spI_eq (E := E) (E' := E.at x) ⟨rfl, rfl, rfl, rfl, rfl, rfl, rfl⟩
theorem okA_of {f : Nat} {d : Dd} (e : T.defs.lookup f = some (.fn d)) : T.okA K f = d.adr K := by
  unfold Pt.okA
  rw [e]
  rfl
theorem csOf {x : Addr} {l : Lf} {X : Cx} {W : WX} (hP : X.prog = P) (hw : X.w = w) (hK : X.K = K) (hmg : X.mg = mg) (hb : X.base = base) (hcalm : X.calm = true) (nd : X.N.Nodup) (hN : X.N = l.N) (hsc : X.env.scope = l.kd.d.scope) (hfn : X.fn = fun _ => true)
    (hr : Room (T.lev l.id - 1) X.A) (tk : Takes X W) (ind : Ind W) (fx : Fx T K mg) (ok : l.okB T = true) (ih : ∀ f, T.lev f + 2 ≤ T.lev l.id → Good T F P w K mg base f) (hlam : l.lam.isSome = true → LamOk (T.en F K) X) : Cs ((T.en F K).at x) (l.tb T) l.sc X W := by
  subst hP hw hK hmg hb
  obtain ⟨o1, o⟩ := band ok
  obtain ⟨o2, o⟩ := band o
  obtain ⟨o3, o4⟩ := band o
  have l8 : 8 ≤ T.lev l.id := by unfold Pt.lev; omega
  have calls : ∀ {f : Nat} {d : Dd}, T.defs.lookup f = some (.fn d) → T.lev f + 2 ≤ T.lev l.id → Clb ((T.en F X.K).at x) X (d.adr X.K) f := fun {f d} e hl X' W' s t i => by
    have g := (ih f hl).1 d e
    rw [← spF_at (x := x)] at g
    refine callsF_of (k := T.lev f) ?_ ?_ t
    · rw [s.prog, s.w, s.K, s.mg, s.base]; exact g
    · rw [s.A]; exact hr.mono (by omega)
  refine ⟨rfl, hcalm, nd, hN, hsc, hfn, hr.mono (by omega), tk, ind, fun y f q => ?_, fun n i q => ?_, fun y c q => ?_, fun y t n q => ?_, fun y d q => ?_, fun y q => ?_, fx.nnm, ?_, fun z => ?_⟩
  · obtain ⟨a1, a2⟩ := band (List.all_eq_true.mp o1 _ (memL q))
    obtain ⟨h1, h2⟩ := fx.fns y f (of_decide_eq_true a1)
    have hl : T.lev f + 2 ≤ T.lev l.id := of_decide_eq_true a2
    refine ⟨rfl, He.ga X.K y, h1, ?_⟩
    rcases h2 with ⟨d, e1, e2⟩ | ⟨c, d, e1, m, e2⟩
    · have g := calls e1 hl
      rw [e2] at g
      have kp := (fx.dd f _ e1).kp
      refine ⟨?_, g⟩
      rw [← e2]
      exact kp
    · refine ⟨m.kp, fun X' W' s t i => ?_⟩
      have g := (ih f hl).2 c d e1
      rw [← spI_at (x := x)] at g
      refine callsM (k := T.lev f) (c := c) e2 (fi := d.adr X.K) ?_ ?_ ?_ t i
      · rw [s.K]; exact m
      · rw [s.prog, s.w, s.K, s.mg, s.base]; exact g
      · rw [s.A]; exact hr.mono (by omega)
  · obtain ⟨a1, a2⟩ := band (List.all_eq_true.mp o2 _ (memL q))
    obtain ⟨a2, a3⟩ := band a2
    have hn := of_decide_eq_true a1
    refine ⟨⟨fun c z => ?_, fun c j z => (fx.sl c i j z).2 n hn, fun c f z1 z2 => ?_⟩, fun c f z => ?_⟩
    · have hx : ∃ y : Str, T.clN[c]? = some y := by
        rcases z with z | z
        · obtain ⟨j, e⟩ := Option.isSome_iff_exists.mp z; exact (fx.sl c i j e).1
        · obtain ⟨j, e⟩ := Option.isSome_iff_exists.mp z; exact (fx.pr c i j e).1
      obtain ⟨y, e⟩ := hx
      have := (fx.cls c y e).2.1
      show SlX.SCls X.K (T.cl X.K c)
      unfold Pt.cl
      rw [getD_of e]
      exact this
    · obtain ⟨_, b1, ⟨d, b2⟩, b3⟩ := fx.pr c i f z2
      obtain ⟨p, b4, b5, b6, b7⟩ := b3 n hn
      have hl : T.lev f + 2 ≤ T.lev l.id := by
        have := List.all_eq_true.mp a2 _ (memL z2)
        simpa using this
      have g := (ih f hl).1 d b2
      rw [← spF_at (x := x)] at g
      rw [okA_of b2] at b7
      exact ⟨p, d.adr X.K, T.lev f, b4, b5, b6, b7, g, hr.mono (by omega), b1⟩
    · obtain ⟨⟨y, e⟩, ⟨d, b2⟩, b3⟩ := fx.mt c i f z
      have hl : T.lev f + 2 ≤ T.lev l.id := by
        have := List.all_eq_true.mp a3 _ (memL z)
        simpa using this
      have g := calls b2 hl
      rw [← okA_of b2] at g
      refine ⟨?_, rfl, ?_, T.okA X.K f, b3 n hn, g⟩
      · exact List.mem_filterMap.mpr ⟨_, memL z, by simp⟩
      · show SlX.SCls X.K (T.cl X.K c)
        unfold Pt.cl
        rw [getD_of e]
        exact (fx.cls c y e).2.1
  · have e := of_decide_eq_true (List.all_eq_true.mp o3 _ (memL q))
    have z := isiOk_of (F := F) fx (fx.own c y e)
    show X.mg y = some (.ref (T.cl X.K c)) ∧ IsiOk _ X (.own c) (.ref (T.cl X.K c))
    unfold Pt.cl
    rw [getD_of e]
    exact ⟨(fx.cls c y e).1, ⟨z.prim, z.own⟩⟩
  · have z := isiOk_of (F := F) fx (fx.tys t n (tyOf_mem q))
    exact ⟨z.prim, z.own⟩
  · obtain ⟨v, u, h1, h2, h3⟩ := fx.cst y d q
    exact ⟨v, u, h1, h2, fun P H => h3 _ P H⟩
  · exact fx.nob y (by simpa [nobB, Lf.tb] using q)
  · refine ⟨fun c f z => ?_⟩
    obtain ⟨b1, ⟨d, b2⟩, b3⟩ := fx.ln c f z
    have hl : T.lev f + 2 ≤ T.lev l.id := by
      have := List.all_eq_true.mp o4 _ (memL z)
      simpa using this
    have g := (ih f hl).1 d b2
    rw [← spF_at (x := x)] at g
    have fn := (fx.dd f _ b2).fn
    rw [okA_of b2] at b3
    exact ⟨d.adr X.K, T.lev f, b3, fn, g, hr.mono (by omega), b1⟩
  · obtain ⟨c, p, h1, h2, h3, h4⟩ := (hlam z).ex
    exact ⟨c, p, h1, h2, h3, h4⟩
/-! ### parameters -/
def plainP : Arguments → Option (List Str)
  | ⟨[], as, none, [], [], none, []⟩ => some (as.map (·.arg))
  | _ => none
theorem raw_of {sp : Sp} {k : Nat} {f : Addr} {fd : FuncData} {ps N : List Str} {sc : Scope} (F : FnOk P w K mg base (L2.CX P w) k f fd ps sp) (hp : plainP fd.params = some ps) (hd : fd.defaults = .none) (S : FnScope N ps sc) : FnR P w K mg base (L2.CX P w) k f sp := by
  unfold plainP at hp
  split at hp
  · rename_i as e
    cases hp
    have nd : (as.map (·.arg)).Nodup := by
      have := S.pre
      rw [← this]
      exact S.nd.sublist (List.take_sublist _ _)
    refine FnR.imp (FnOk.raw F (ds := []) (dvs := []) (Binds.all fun us hl => bind_all e hd nd (by simpa using hl)) .nil) fun vs H Q E h => by
      rw [List.append_nil]
      exact h
  · cases hp
/-- all that is asked of a def's text -/
structure LfOk (T : Pt) (l : Lf) : Prop where
  at_ : T.defs.lookup l.id = some l.kd
  S : FnScope l.N l.ps l.kd.d.scope
  par : plainP l.kd.d.params = some l.ps
  ok : l.okB T = true
  ir : cSs (l.tb T) l.sc l.U l.fuel l.kd.d.body = some l.ir
  lam : ∀ j, l.lam = some j → ∃ p, T.lams[j]? = some p ∧ p.2 = l.kd.d.qual ++ ".<locals>." ++ "<lambda>" ∧ l.kd.d.adr = fun K => He.fAd K p.1
theorem lamOk_of {l : Lf} {X : Cx} {cdv : Value} {oc : Value} {od : Option Addr} {osl : Array (Option Value)} {fd : FuncData} (hl : LfOk T l) (fx : Fx T K mg) (hT : ∀ p ∈ T.lams, LamX.TabB base mg (He.cT K p.1).1 (He.cT K p.1).2) (lk : K.lookup (l.kd.d.adr K) = some ⟨oc, od, .func fd, osl⟩) (hcd : PySem.W.codeIn K cdv l.kd.d.qual = true)
    (hfd : fd.code = cdv) (hmg : X.mg = mg) (hb : X.base = base) (hc : X.env.code = cdv) (hq : X.env.qual = l.kd.d.qual ++ ".<locals>.") (z : l.lam.isSome = true) : LamOk (T.en F K) X := by
  obtain ⟨j, e⟩ := Option.isSome_iff_exists.mp z
  obtain ⟨p, h1, h2, h3⟩ := hl.lam j e
  obtain ⟨c, e2⟩ := He.codeIn_ref hcd
  have hm : p ∈ T.lams := List.mem_of_getElem? h1
  rw [h3] at lk
  have e3 : He.codeOf K p.1 = c := He.codeOf_eq lk (by rw [hfd, e2])
  refine ⟨(He.cT K p.1).1, (He.cT K p.1).2, by rw [hmg, hb]; exact hT p hm, ?_, ?_, fun q hq' e4 => ?_⟩
  · rw [hc, e2]; unfold He.cT; rw [e3]
  · rw [hq, ← h2]; exact List.mem_map.mpr ⟨p, hm, rfl⟩
  · obtain ⟨q', m, rfl⟩ := List.mem_map.mp hq'
    rw [hq, ← h2]
    exact fx.lam q' m p hm e4
theorem step_fn {l : Lf} {d : Dd} (hk : l.kd = .fn d) (hl : LfOk T l) (hps : l.ps.length = (T.fb l.id).length) (fx : Fx T K mg) (hT : ∀ p ∈ T.lams, LamX.TabB base mg (He.cT K p.1).1 (He.cT K p.1).2) (ih : ∀ f, T.lev f + 2 ≤ T.lev l.id → Good T F P w K mg base f)
    (hF : ∀ ds, F l.id ds ≠ .no → F l.id ds = evB (T.pg F) l.ir (T.fb l.id) l.N.length ds) : FnR P w K mg base (L2.CX P w) (T.lev l.id) (d.adr K) (spF (T.en F K) l.id) := by
  have l8 : 8 ≤ T.lev l.id := by unfold Pt.lev; omega
  have dd := fx.dd _ _ hl.at_
  obtain ⟨oc, od, osl, kV, doc, pm, an, cdv, ct, lk, hcd⟩ := dd.ex
  have FO : FnOk P w K mg base (L2.CX P w) (T.lev l.id - 1 + 1) (l.kd.d.adr K) _ l.ps (spF (T.en F K) l.id) := fn_def (E := T.en F K) (tb := l.tb T) (C := l.sc) (U := l.U) lk hcd hl.S hps (fun A outer s H XE hr tk => ?_) hl.ir hF
  · have e : T.lev l.id - 1 + 1 = T.lev l.id := by omega
    rw [e] at FO
    have r := raw_of FO hl.par rfl hl.S
    rw [hk] at r
    exact r
  · have c := csOf (x := 0) (F := F) (l := l) (W := fun cls d _ H' => XE cls d H') (X := cxOf (L2.CX P w) P w K mg base l.N l.kd.d.qual l.kd.d.scope (l.kd.d.adr K) cdv A outer s H XE) rfl rfl rfl rfl rfl rfl hl.S.nd rfl rfl rfl hr tk (fun _ _ _ _ _ z => z) fx hl.ok ih
      (fun z => lamOk_of hl fx hT lk hcd rfl rfl rfl rfl rfl z)
    exact c
theorem step_mk {l : Lf} {c m : Nat} {d : Dd} (hk : l.kd = .mk c d) (hl : LfOk T l) (hps : l.ps.length = (T.fb l.id).length + 1) (fx : Fx T K mg) (hT : ∀ p ∈ T.lams, LamX.TabB base mg (He.cT K p.1).1 (He.cT K p.1).2) (ih : ∀ f, T.lev f + 2 ≤ T.lev l.id → Good T F P w K mg base f)
    (hF : ∀ ds, F l.id ds ≠ .no → F l.id ds = evM (T.pg F) l.ir (T.fb l.id) (l.N.length - 1) c m ds) : FnR P w K mg base (L2.CX P w) (T.lev l.id) (d.adr K) (spI (T.en F K) l.id c) := by
  have l8 : 8 ≤ T.lev l.id := by unfold Pt.lev; omega
  have dd := fx.dd _ _ hl.at_
  obtain ⟨oc, od, osl, kV, doc, pm, an, cdv, ct, lk, hcd⟩ := dd.ex
  have FO : FnOk P w K mg base (L2.CX P w) (T.lev l.id - 1 + 1) (l.kd.d.adr K) _ l.ps (spI (T.en F K) l.id c) := fn_ini (E := T.en F K) (tb := l.tb T) (C := l.sc) (U := l.U) (m := m) lk hcd hl.S hps (fun x A outer s H XE hr tk => ?_) hl.ir hF
  · have e : T.lev l.id - 1 + 1 = T.lev l.id := by omega
    rw [e] at FO
    have r := raw_of FO hl.par rfl hl.S
    rw [hk] at r
    exact r
  · exact csOf (x := x) (F := F) (l := l) (W := fun cls d _ H' => XE cls d H') (X := cxOf (L2.CX P w) P w K mg base l.N l.kd.d.qual l.kd.d.scope (l.kd.d.adr K) cdv A outer s H XE) rfl rfl rfl rfl rfl rfl hl.S.nd rfl rfl rfl hr tk (fun _ _ _ _ _ z => z) fx hl.ok ih
      (fun z => lamOk_of hl fx hT lk hcd rfl rfl rfl rfl rfl z)
end
end Z

/-! Za: the evaluator only grows with what it calls; the defs by rounds. -/
namespace Z
open PySem
def LeR {α : Type} (a b : R α) : Prop := a = .no ∨ b = a
theorem LeR.refl {α : Type} (a : R α) : LeR a a := .inr rfl
theorem LeR.bind {α β : Type} {a b : R α} {f g : α → R β} (h : LeR a b) (hf : ∀ x, LeR (f x) (g x)) : LeR (a.bind f) (b.bind g) := by
  rcases h with h | h
  · rw [h]; exact .inl rfl
  · rw [h]
    cases a with
    | ok x => exact hf x
    | ex x => exact .inr rfl
    | no => exact .inl rfl
theorem LeR.nx {α : Type} {a b : R α} (h : LeR a b) : LeR (nx a) (nx b) := by
  rcases h with h | h
  · rw [h]; exact .inl rfl
  · rw [h]; exact .inr rfl
theorem LeR.rb {α β : Type} {o : Option α} {f g : α → R β} (hf : ∀ x, LeR (f x) (g x)) : LeR (rb o f) (rb o g) := by
  cases o with
  | none => exact .inl rfl
  | some a => exact hf a
theorem LeR.ite {α : Type} {c : Prop} [Decidable c] {a b a' b' : R α} (h : LeR a a') (h' : LeR b b') : LeR (if c then a else b) (if c then a' else b') := by
  split
  · exact h
  · exact h'
structure LeG (G' G : Pg) : Prop where
  F : ∀ f ds, LeR (G'.F f ds) (G.F f ds)
  sl : G'.sl = G.sl
  pr : G'.pr = G.pr
  mt : G'.mt = G.mt
  ln : ∀ c, G'.ln c = none ∨ G'.ln c = G.ln c
  nc : G'.nc = G.nc
section
variable {G' G : Pg}
theorem LeG.blt (h : LeG G' G) (f : Bf) (ds : List D) : LeR (dBlt G' f ds) (dBlt G f ds) := by
  unfold dBlt
  split
  all_goals first | exact .inr rfl | skip
  rename_i c fs
  rcases h.ln c with e | e
  · rw [e]; exact .inl rfl
  · rw [e]; exact LeR.rb fun f => LeR.bind (h.F _ _) fun _ => LeR.refl _
theorem lcGo_le {t : Tg} {e e' : Sl → R D} {c c' : Sl → R Bool} {st : Sl} (he : ∀ st, LeR (e' st) (e st)) (hc : ∀ st, LeR (c' st) (c st)) : ∀ xs, LeR (lcGo t e' c' st xs) (lcGo t e c st xs)
  | [] => LeR.refl _
  | x :: xs => by
    unfold lcGo
    split
    · exact .inl rfl
    · exact LeR.bind (hc _) fun b => LeR.ite (LeR.bind (he _) fun d => LeR.bind (lcGo_le he hc xs) fun _ => LeR.refl _) (lcGo_le he hc xs)
theorem ev_le (h : LeG G' G) : ∀ e : Ex, (∀ st, LeR (ev G' e st) (ev G e st)) ∧ (∀ st, LeR (evT G' e st) (evT G e st)) ∧ (∀ st, LeR (evL G' e st) (evL G e st)) ∧ ∀ st, LeR (evI G' e st) (evI G e st) := by
  intro e
  induction e with
  | bin o x y hx hy => exact ⟨fun st => by unfold ev; exact LeR.bind (hx.1 st) fun a => LeR.bind (hy.1 st) fun b => LeR.refl _, fun st => .inl rfl, fun st => .inl rfl, fun st => .inl rfl⟩
  | neg x hx => exact ⟨fun st => by unfold ev; exact LeR.bind (hx.1 st) fun a => LeR.refl _, fun st => .inl rfl, fun st => .inl rfl, fun st => .inl rfl⟩
  | nt x hx => exact ⟨fun st => by unfold ev; exact LeR.bind (hx.1 st) fun a => LeR.refl _, fun st => .inl rfl, fun st => .inl rfl, fun st => .inl rfl⟩
  | cmp o x y hx hy => exact ⟨fun st => by unfold ev; exact LeR.bind (hx.1 st) fun a => LeR.bind (hy.1 st) fun b => LeR.refl _, fun st => .inl rfl, fun st => .inl rfl, fun st => .inl rfl⟩
  | chn o p x y z hx hy hz =>
    refine ⟨fun st => ?_, fun st => .inl rfl, fun st => .inl rfl, fun st => .inl rfl⟩
    unfold ev
    refine LeR.bind (hx.1 st) fun a => LeR.bind (hy.1 st) fun b => LeR.bind (LeR.refl _) fun r => ?_
    split
    · exact LeR.bind (hz.1 st) fun c => LeR.refl _
    · exact LeR.refl _
    · exact LeR.refl _
  | an x y hx hy =>
    refine ⟨fun st => ?_, fun st => .inl rfl, fun st => .inl rfl, fun st => .inl rfl⟩
    unfold ev
    refine LeR.bind (hx.1 st) fun a => ?_
    split
    · exact hy.1 st
    · exact LeR.refl _
    · exact LeR.refl _
  | orr x y hx hy =>
    refine ⟨fun st => ?_, fun st => .inl rfl, fun st => .inl rfl, fun st => .inl rfl⟩
    unfold ev
    refine LeR.bind (hx.1 st) fun a => ?_
    split
    · exact hy.1 st
    · exact LeR.refl _
    · exact LeR.refl _
  | ite c x y hc hx hy => exact ⟨fun st => by unfold ev; exact LeR.bind (hc.2.1 st) fun b => LeR.ite (hx.1 st) (hy.1 st), fun st => .inl rfl, fun st => .inl rfl, fun st => .inl rfl⟩
  | cons x r hx hr => exact ⟨fun st => .inl rfl, fun st => .inl rfl, fun st => by unfold evL; exact LeR.bind (hx.1 st) fun a => LeR.bind (hr.2.2.1 st) fun _ => LeR.refl _, fun st => .inl rfl⟩
  | star x r hx hr => exact ⟨fun st => .inl rfl, fun st => .inl rfl, fun st => by unfold evL; exact LeR.bind (hx.1 st) fun a => LeR.bind (LeR.refl _) fun _ => LeR.bind (hr.2.2.1 st) fun _ => LeR.refl _, fun st => .inl rfl⟩
  | tup l hl => exact ⟨fun st => by unfold ev; exact LeR.bind (hl.2.2.1 st) fun a => LeR.refl _, fun st => .inl rfl, fun st => .inl rfl, fun st => .inl rfl⟩
  | lst l hl => exact ⟨fun st => by unfold ev; exact LeR.bind (hl.2.2.1 st) fun a => LeR.refl _, fun st => .inl rfl, fun st => .inl rfl, fun st => .inl rfl⟩
  | idx x i hx hi => exact ⟨fun st => by unfold ev; exact LeR.bind (hx.1 st) fun a => LeR.bind (hi.1 st) fun b => LeR.refl _, fun st => .inl rfl, fun st => .inl rfl, fun st => .inl rfl⟩
  | sl x lo hi hx hlo hhi => exact ⟨fun st => by unfold ev; exact LeR.bind (hx.1 st) fun a => LeR.bind (LeR.ite (LeR.refl _) (LeR.bind (hlo.1 st) fun _ => LeR.refl _)) fun b => LeR.bind (LeR.ite (LeR.refl _) (LeR.bind (hhi.1 st) fun _ => LeR.refl _)) fun _ => LeR.refl _, fun st => .inl rfl, fun st => .inl rfl, fun st => .inl rfl⟩
  | att x n hx =>
    refine ⟨fun st => ?_, fun st => .inl rfl, fun st => .inl rfl, fun st => .inl rfl⟩
    unfold ev
    rw [h.sl, h.pr]
    refine LeR.bind (hx.1 st) fun a => ?_
    split
    · split
      · exact LeR.refl _
      · exact LeR.rb fun f => LeR.nx (h.F _ _)
    · exact LeR.refl _
  | call f l hl => exact ⟨fun st => by unfold ev; exact LeR.bind (hl.2.2.1 st) fun a => h.F _ _, fun st => .inl rfl, fun st => .inl rfl, fun st => .inl rfl⟩
  | meth x n l hx hl =>
    refine ⟨fun st => ?_, fun st => .inl rfl, fun st => .inl rfl, fun st => .inl rfl⟩
    unfold ev
    rw [h.mt]
    refine LeR.bind (hx.1 st) fun a => ?_
    split
    · exact LeR.rb fun f => LeR.bind (hl.2.2.1 st) fun _ => h.F _ _
    · exact LeR.refl _
  | blt f l hl => exact ⟨fun st => by unfold ev; exact LeR.bind (hl.2.2.1 st) fun a => LeR.nx (h.blt f a), fun st => .inl rfl, fun st => .inl rfl, fun st => .inl rfl⟩
  | isi x t hx => exact ⟨fun st => by unfold ev; rw [h.nc]; exact LeR.bind (hx.1 st) fun a => LeR.refl _, fun st => .inl rfl, fun st => .inl rfl, fun st => .inl rfl⟩
  | lc e t s c he hs hc => exact ⟨fun st => by unfold ev; exact LeR.bind (hs.2.2.2 st) fun xs => LeR.bind (LeR.refl _) fun _ => LeR.bind (LeR.nx (lcGo_le he.1 hc.2.1 xs)) fun _ => LeR.refl _, fun st => .inl rfl, fun st => .inl rfl, fun st => .inl rfl⟩
  | lrg x y hx hy => exact ⟨fun st => by unfold ev; exact LeR.bind (hx.1 st) fun a => LeR.bind (hy.1 st) fun b => LeR.refl _, fun st => .inl rfl, fun st => .inl rfl, fun st => .inl rfl⟩
  | sSeq x hx => exact ⟨fun st => .inl rfl, fun st => .inl rfl, fun st => .inl rfl, fun st => by unfold evI; exact LeR.bind (hx.1 st) fun a => LeR.refl _⟩
  | sEnum x hx => exact ⟨fun st => .inl rfl, fun st => .inl rfl, fun st => .inl rfl, fun st => by unfold evI; exact LeR.bind (hx.1 st) fun a => LeR.refl _⟩
  | sZip x y hx hy => exact ⟨fun st => .inl rfl, fun st => .inl rfl, fun st => .inl rfl, fun st => by unfold evI; exact LeR.bind (hx.1 st) fun a => LeR.bind (hy.1 st) fun b => LeR.refl _⟩
  | sRng x y hx hy => exact ⟨fun st => .inl rfl, fun st => .inl rfl, fun st => .inl rfl, fun st => by unfold evI; exact LeR.bind (hx.1 st) fun a => LeR.bind (hy.1 st) fun b => LeR.refl _⟩
  | tan x y hx hy => exact ⟨fun st => .inl rfl, fun st => by unfold evT; exact LeR.bind (hx.2.1 st) fun a => LeR.ite (hy.2.1 st) (LeR.refl _), fun st => .inl rfl, fun st => .inl rfl⟩
  | tor x y hx hy => exact ⟨fun st => .inl rfl, fun st => by unfold evT; exact LeR.bind (hx.2.1 st) fun a => LeR.ite (LeR.refl _) (hy.2.1 st), fun st => .inl rfl, fun st => .inl rfl⟩
  | tnt x hx => exact ⟨fun st => .inl rfl, fun st => by unfold evT; exact LeR.bind (hx.2.1 st) fun a => LeR.refl _, fun st => .inl rfl, fun st => .inl rfl⟩
  | tv x hx => exact ⟨fun st => .inl rfl, fun st => by unfold evT; exact LeR.bind (hx.1 st) fun a => LeR.refl _, fun st => .inl rfl, fun st => .inl rfl⟩
  | dget x k hx hk =>
    refine ⟨fun st => ?_, fun st => .inl rfl, fun st => .inl rfl, fun st => .inl rfl⟩
    unfold ev
    refine LeR.bind (hx.1 st) fun a => ?_
    split
    · exact LeR.bind (hk.1 st) fun b => LeR.refl _
    · exact LeR.refl _
  | dct l hl => exact ⟨fun st => by unfold ev; exact LeR.bind (hl.2.2.1 st) fun a => LeR.refl _, fun st => .inl rfl, fun st => .inl rfl, fun st => .inl rfl⟩
  | v i => exact ⟨fun st => .inr rfl, fun st => .inl rfl, fun st => .inl rfl, fun st => .inl rfl⟩
  | b i => exact ⟨fun st => .inr rfl, fun st => .inl rfl, fun st => .inl rfl, fun st => .inl rfl⟩
  | k i => exact ⟨fun st => .inr rfl, fun st => .inl rfl, fun st => .inl rfl, fun st => .inl rfl⟩
  | nil => exact ⟨fun st => .inr rfl, fun st => .inl rfl, fun st => .inr rfl, fun st => .inl rfl⟩
  | tyes => exact ⟨fun st => .inr rfl, fun st => .inr rfl, fun st => .inl rfl, fun st => .inl rfl⟩
def LeO (a b : Out) : Prop := a = .no ∨ b = a
theorem LeO.refl (a : Out) : LeO a a := .inr rfl
theorem LeO.out {α : Type} {a b : R α} {st : Sl} {f g : α → Out} (h : LeR a b) (hf : ∀ x, LeO (f x) (g x)) : LeO (a.out st f) (b.out st g) := by
  rcases h with h | h
  · rw [h]; exact .inl rfl
  · rw [h]
    cases a with
    | ok x => exact hf x
    | ex x => exact .inr rfl
    | no => exact .inl rfl
theorem LeO.ite {c : Prop} [Decidable c] {a b a' b' : Out} (h : LeO a a') (h' : LeO b b') : LeO (if c then a else b) (if c then a' else b') := by
  split
  · exact h
  · exact h'
theorem forGo_le {t : Tg} {b b' : Sl → Out} (hb : ∀ st, LeO (b' st) (b st)) : ∀ xs st, LeO (forGo t b' xs st) (forGo t b xs st)
  | [], st => LeO.refl _
  | x :: xs, st => by
    unfold forGo
    split
    · exact .inl rfl
    · rename_i st1 e
      rcases hb st1 with q | q
      · rw [q]; exact .inl rfl
      · rw [q]
        cases b' st1 with
        | nx st2 => exact forGo_le hb xs st2
        | ct st2 => exact forGo_le hb xs st2
        | bk st2 => exact LeO.refl _
        | rt d => exact LeO.refl _
        | ex x s => exact LeO.refl _
        | no => exact LeO.refl _
theorem loop_le {c c' : Sl → R Bool} {b b' : Sl → Out} (hc : ∀ st, LeR (c' st) (c st)) (hb : ∀ st, LeO (b' st) (b st)) {st : Sl} {o : Out} (h : Loop c' b' st o) : Loop c b st o := by
  have kc : ∀ {st : Sl} {x : Bool}, c' st = .ok x → c st = .ok x := fun {st x} e => by
    rcases hc st with q | q
    · rw [q] at e; cases e
    · rw [q]; exact e
  have kb : ∀ {st : Sl} {o : Out}, b' st = o → o ≠ .no → b st = o := fun {st o} e n => by
    rcases hb st with q | q
    · rw [q] at e; exact absurd e.symm n
    · rw [q]; exact e
  induction h with
  | stop h1 => exact .stop (kc h1)
  | nx h1 h2 _ ih => exact .nx (kc h1) (kb h2 fun z => nomatch z) ih
  | ct h1 h2 _ ih => exact .ct (kc h1) (kb h2 fun z => nomatch z) ih
  | bk h1 h2 => exact .bk (kc h1) (kb h2 fun z => nomatch z)
  | rt h1 h2 => exact .rt (kc h1) (kb h2 fun z => nomatch z)
theorem while_le {c c' : Sl → R Bool} {b b' : Sl → Out} (hc : ∀ st, LeR (c' st) (c st)) (hb : ∀ st, LeO (b' st) (b st)) (st : Sl) : LeO (whileD c' b' st) (whileD c b st) := by
  by_cases h : whileD c' b' st = .no
  · exact .inl h
  · exact .inr (whileD_eq (loop_le hc hb (whileD_loop h)))
theorem evS_le (h : LeG G' G) : ∀ (s : Sx) (st : Sl), LeO (evS G' s st) (evS G s st) := by
  have E := fun e => (ev_le h e).1
  have ET := fun e => (ev_le h e).2.1
  have EL := fun e => (ev_le h e).2.2.1
  have EI := fun e => (ev_le h e).2.2.2
  intro s
  induction s with
  | seq s r hs hr =>
    intro st
    unfold evS
    rcases hs st with q | q
    · rw [q]; exact .inl rfl
    · rw [q]
      cases evS G' s st with
      | nx st1 => exact hr st1
      | _ => exact LeO.refl _
  | asg t e => intro st; unfold evS; exact LeO.ite (LeO.refl _) (LeO.out (E e st) fun _ => LeO.refl _)
  | asgO i e => intro st; unfold evS; exact LeO.ite (LeO.out (E e st) fun _ => LeO.refl _) (LeO.refl _)
  | par l e => intro st; unfold evS; exact LeO.ite (LeO.out (EL e st) fun _ => LeO.refl _) (LeO.refl _)
  | drop e => intro st; unfold evS; exact LeO.out (E e st) fun _ => LeO.refl _
  | ret e => intro st; unfold evS; exact LeO.ite (LeO.refl _) (LeO.out (E e _) fun _ => LeO.refl _)
  | iff c a b ha hb => intro st; unfold evS; exact LeO.out (ET c st) fun _ => LeO.ite (ha st) (hb st)
  | forr t s a ha => intro st; unfold evS; exact LeO.out (EI s st) fun xs => forGo_le ha xs st
  | whil c a ha => intro st; unfold evS; exact while_le (ET c) ha st
  | rais c l => intro st; unfold evS; exact LeO.out (EL l st) fun _ => LeO.refl _
  | app i e =>
    intro st
    unfold evS
    split
    · exact LeO.ite (LeO.refl _) (LeO.out (E e st) fun _ => LeO.refl _)
    · exact LeO.refl _
  | ext i e =>
    intro st
    unfold evS
    split
    · exact LeO.ite (LeO.refl _) (LeO.out (E e st) fun _ => LeO.refl _)
    · exact LeO.refl _
  | pop t i l => intro st; exact LeO.refl _
  | set i k e =>
    intro st
    unfold evS
    split
    · exact LeO.ite (LeO.refl _) (LeO.out (E e st) fun _ => LeO.out (E k st) fun _ => LeO.refl _)
    · exact LeO.ite (LeO.refl _) (LeO.out (E e st) fun _ => LeO.out (E k st) fun _ => LeO.refl _)
    · exact LeO.refl _
  | fld i n e =>
    intro st
    unfold evS
    rw [h.sl]
    split
    · exact LeO.ite (LeO.refl _) (LeO.out (E e st) fun _ => LeO.refl _)
    · exact LeO.refl _
  | _ => intro st; exact LeO.refl _
theorem evB_le (h : LeG G' G) (ir : Sx) (bs : List Bool) (n : Nat) (ds : List D) : LeR (evB G' ir bs n ds) (evB G ir bs n ds) := by
  unfold evB
  split
  · rcases evS_le h ir (argS bs ds n) with q | q
    · rw [q]; exact .inl rfl
    · rw [q]; exact .inr rfl
  · exact .inl rfl
theorem evM_le (h : LeG G' G) (ir : Sx) (bs : List Bool) (n c m : Nat) (ds : List D) : LeR (evM G' ir bs n c m ds) (evM G ir bs n c m ds) := by
  unfold evM
  split
  · rcases evS_le h ir (some (.slf c (List.replicate m none)) :: argS bs ds n) with q | q
    · rw [q]; exact .inl rfl
    · rw [q]; exact .inr rfl
  · exact .inl rfl
end
/-! ### the defs by rounds -/
inductive Ir where
  | fn (ir : Sx) (n : Nat) | nl (ir : Sx) (n : Nat) | mk (c m : Nat) (ir : Sx) (n : Nat)
def Pg.nl (G : Pg) : Pg := { G with ln := fun _ => none }
/-- a program's tables, as far as the evaluator looks at them -/
structure Pe where
  sl : Nat → Nat → Option Nat
  pr : Nat → Nat → Option Nat
  mt : Nat → Nat → Option Nat
  ln : Nat → Option Nat
  nc : Nat
  fb : Nat → List Bool
  ir : Nat → Option Ir
def Pe.pg (T : Pe) (F : Nat → List D → R D) : Pg := ⟨F, T.sl, T.pr, T.mt, T.ln, T.nc⟩
noncomputable def Pe.run (T : Pe) (F : Nat → List D → R D) (g : Nat) (ds : List D) : R D := match T.ir g with
  | some (.fn ir n) => evB (T.pg F) ir (T.fb g) n ds
  | some (.nl ir n) => evB (T.pg F).nl ir (T.fb g) n ds
  | some (.mk c m ir n) => evM (T.pg F) ir (T.fb g) n c m ds
  | none => .no
noncomputable def Pe.F (T : Pe) : Nat → Nat → List D → R D
  | 0 => fun _ _ => .no
  | k + 1 => T.run (T.F k)
theorem Pe.run_le {T : Pe} {F' F : Nat → List D → R D} (h : ∀ f ds, LeR (F' f ds) (F f ds)) (g : Nat) (ds : List D) : LeR (T.run F' g ds) (T.run F g ds) := by
  have L : LeG (T.pg F') (T.pg F) := ⟨h, rfl, rfl, rfl, fun _ => .inr rfl, rfl⟩
  have L2 : LeG (T.pg F').nl (T.pg F).nl := ⟨h, rfl, rfl, rfl, fun _ => .inr rfl, rfl⟩
  unfold Pe.run
  split
  · exact evB_le L _ _ _ _
  · exact evB_le L2 _ _ _ _
  · exact evM_le L _ _ _ _ _ _
  · exact .inl rfl
theorem Pe.F_le (T : Pe) : ∀ (k f : Nat) (ds : List D), LeR (T.F k f ds) (T.F (k + 1) f ds)
  | 0, f, ds => .inl rfl
  | k + 1, f, ds => T.run_le (T.F_le k) f ds
/-- a def's answer by its own body -/
theorem Pe.F_run (T : Pe) (k f : Nat) (ds : List D) (h : T.F k f ds ≠ .no) : T.F k f ds = T.run (T.F k) f ds := by
  rcases T.F_le k f ds with q | q
  · exact absurd q h
  · exact q.symm
end Z

/-! Zz: all defs of a program; the law's end. -/
namespace Z
open PySem PySem.Spec PyProof.Rows L2
def Pt.nl (T : Pt) : Pt := { T with ln := [] }
def Pt.pe (T : Pt) (ir : Nat → Option Ir) : Pe := ⟨fun c i => T.sl.lookup (c, i), fun c i => T.pr.lookup (c, i), fun c i => T.mt.lookup (c, i), fun c => T.ln.lookup c, T.clN.length, T.fb, ir⟩
def DefOk (T : Pt) (ir : Nat → Option Ir) (p : Nat × Kd) : Prop := ∃ l : Lf, l.id = p.1 ∧ l.kd = p.2 ∧
  ((∃ d, p.2 = .fn d ∧ LfOk T l ∧ l.ps.length = (T.fb l.id).length ∧ ir l.id = some (.fn l.ir l.N.length)) ∨
   (∃ d, p.2 = .fn d ∧ LfOk T.nl l ∧ l.ps.length = (T.fb l.id).length ∧ ir l.id = some (.nl l.ir l.N.length)) ∨
   ∃ c m d, p.2 = .mk c d ∧ LfOk T l ∧ l.ps.length = (T.fb l.id).length + 1 ∧ ir l.id = some (.mk c m l.ir (l.N.length - 1)))
section
variable {T : Pt} {ir : Nat → Option Ir} {n : Nat} {K : PySem.W.Frag} {P : Program} {w : World} {mg : Str → Option Value} {base : Heap}
theorem good_nl {F : Nat → List D → R D} {f : Nat} (h : Good T F P w K mg base f) : Good T.nl F P w K mg base f := by
  refine ⟨fun d e => ?_, fun c d e => ?_⟩
  · rw [spF_eq (E := T.en F K) (E' := T.nl.en F K) ⟨rfl, rfl, rfl, rfl, rfl, rfl, rfl⟩]
    exact h.1 d e
  · rw [spI_eq (E := T.en F K) (E' := T.nl.en F K) ⟨rfl, rfl, rfl, rfl, rfl, rfl, rfl⟩]
    exact h.2 c d e
theorem fx_nl (fx : Fx T K mg) : Fx T.nl K mg := ⟨fx.cls, fx.tys, fx.own, fx.sl, fx.pr, fx.mt, (fun c f e => nomatch e), fx.cst, fx.fns, fx.dd, fx.nob, fx.nnm, fx.lam, fx.nol⟩
theorem all_good (fx : Fx T K mg) (hT : ∀ p ∈ T.lams, LamX.TabB base mg (He.cT K p.1).1 (He.cT K p.1).2) (hd : ∀ p ∈ T.defs, DefOk T ir p) : ∀ (m f : Nat), T.lev f ≤ m → Good T ((T.pe ir).F n) P w K mg base f := by
  intro m
  induction m with
  | zero => intro f hf; unfold Pt.lev at hf; omega
  | succ m ih =>
    intro f hf
    have ih' : ∀ g, T.lev g + 2 ≤ T.lev f → Good T ((T.pe ir).F n) P w K mg base g := fun g hg => ih g (by omega)
    have key : ∀ k, T.defs.lookup f = some k → (∀ d, k = .fn d → FnR P w K mg base (L2.CX P w) (T.lev f) (d.adr K) (spF (T.en ((T.pe ir).F n) K) f)) ∧ ∀ c d, k = .mk c d → FnR P w K mg base (L2.CX P w) (T.lev f) (d.adr K) (spI (T.en ((T.pe ir).F n) K) f c) := fun k e => by
      obtain ⟨l, e1, e2, h⟩ := hd (f, k) (memL e)
      have e1 : l.id = f := e1
      have e2 : l.kd = k := e2
      subst e1
      rcases h with ⟨d, hk, ok, ps, hi⟩ | ⟨d, hk, ok, ps, hi⟩ | ⟨c, m', d, hk, ok, ps, hi⟩
      · have hk : k = .fn d := hk
        have r := step_fn (P := P) (w := w) (base := base) (F := (T.pe ir).F n) (e2.trans hk) ok ps fx hT ih' fun ds hn => by
          have q := (T.pe ir).F_run n l.id ds hn
          unfold Pe.run at q
          rw [show (T.pe ir).ir l.id = _ from hi] at q
          exact q
        refine ⟨fun d' z => ?_, fun c d' z => ?_⟩
        · rw [hk] at z; cases z; exact r
        · rw [hk] at z; cases z
      · have hk : k = .fn d := hk
        have r := step_fn (T := T.nl) (P := P) (w := w) (base := base) (F := (T.pe ir).F n) (e2.trans hk) ok ps (fx_nl fx) hT (fun g hg => good_nl (ih' g hg)) fun ds hn => by
          have q := (T.pe ir).F_run n l.id ds hn
          unfold Pe.run at q
          rw [show (T.pe ir).ir l.id = _ from hi] at q
          exact q
        rw [spF_eq (E := T.en ((T.pe ir).F n) K) (E' := T.nl.en ((T.pe ir).F n) K) ⟨rfl, rfl, rfl, rfl, rfl, rfl, rfl⟩] at r
        refine ⟨fun d' z => ?_, fun c d' z => ?_⟩
        · rw [hk] at z; cases z; exact r
        · rw [hk] at z; cases z
      · have hk : k = .mk c d := hk
        have r := step_mk (P := P) (w := w) (base := base) (F := (T.pe ir).F n) (m := m') (e2.trans hk) ok ps fx hT ih' fun ds hn => by
          have q := (T.pe ir).F_run n l.id ds hn
          unfold Pe.run at q
          rw [show (T.pe ir).ir l.id = _ from hi] at q
          exact q
        refine ⟨fun d' z => ?_, fun c d' z => ?_⟩
        · rw [hk] at z; cases z
        · rw [hk] at z; cases z; exact r
    exact ⟨fun d e => (key _ e).1 d rfl, fun c d e => (key _ e).2 c d rfl⟩
/-- the law itself -/
theorem law_at {l : PySem.W.OpenLaw} {h : Heap} {g : Nat} {d : Dd} {x : Str} {fa : Addr} {lf : Lf} (KX : K.In h) (G : h.Ns mainGlobals mg) (t : T.okT = true) (sz : SaysZ (T.defs.map fun p => p.2.d) (T.lams.map (·.1)) T.exB h K) (hd : ∀ p ∈ T.defs, DefOk T ir p)
    (hg : lf.id = g) (hk : lf.kd = .fn d) (ok : LfOk T lf) (hps : lf.ps = [x]) (hfb : T.fb g = [false]) (hir : ir g = some (.fn lf.ir lf.N.length)) (hfa : d.adr K = fa)
    (hlaw : ∀ ns : List Int, ns.length ≤ 63 → (T.pe ir).F n g [.lst (ns.map .int)] = .ok (.bl true)) : LamX.LawAtS l w K (L2.CX l.prog w) (T.lev g) 63 x mg fa h := by
  have fx := fx_of (mg := mg) KX G sz.more t sz.defs
  have dd := fx.dd _ _ ok.at_
  obtain ⟨oc, od, osl, kV, doc, pm, an, cdv, ct, lk, hcd⟩ := dd.ex
  have l8 : 8 ≤ T.lev g := by unfold Pt.lev; omega
  refine ⟨PySem.W.fnOf lf.kd.d.name lf.kd.d.qual lf.kd.d.params lf.kd.d.body lf.kd.d.scope .none kV doc pm an cdv ct, T.lams.map fun p => He.cT K p.1, spF (T.en ((T.pe ir).F n) K) g, fun p hp => ?_, fun p hp => ?_, fun p hp => ?_, ?_, fun H a ns hl _ hH hS => ?_, fun base hK hB hT => ?_⟩
  rotate_right
  · have hT' : ∀ p ∈ T.lams, LamX.TabB base mg (He.cT K p.1).1 (He.cT K p.1).2 := fun p hp => hT _ (List.mem_map.mpr ⟨p, hp, rfl⟩)
    have FO : FnOk l.prog w K mg base (L2.CX l.prog w) (T.lev lf.id - 1 + 1) (lf.kd.d.adr K) _ lf.ps (spF (T.en ((T.pe ir).F n) K) lf.id) := fn_def (E := T.en ((T.pe ir).F n) K) (tb := lf.tb T) (C := lf.sc) (U := lf.U) lk hcd ok.S (by rw [hps, hg]; show 1 = (T.fb g).length; rw [hfb]; rfl) (fun A outer s H XE hr tk => ?_) ok.ir fun ds hn => by
      have q := (T.pe ir).F_run n lf.id ds hn
      unfold Pe.run at q
      rw [hg, show (T.pe ir).ir g = _ from hir] at q
      rw [hg]
      exact q
    · have e : T.lev lf.id - 1 + 1 = T.lev g := by rw [hg]; omega
      rw [e, hps, hg] at FO
      have ha : lf.kd.d.adr K = fa := by rw [hk]; exact hfa
      rw [ha] at FO
      exact FO
    · have c := csOf (x := 0) (F := (T.pe ir).F n) (l := lf) (W := fun cls d _ H' => XE cls d H') (X := cxOf (L2.CX l.prog w) l.prog w K mg base lf.N lf.kd.d.qual lf.kd.d.scope (lf.kd.d.adr K) cdv A outer s H XE) rfl rfl rfl rfl rfl rfl ok.S.nd rfl rfl rfl hr tk (fun _ _ _ _ _ z => z) fx ok.ok
        (fun f _ => all_good fx hT' hd _ f (Nat.le_refl _)) (fun z => lamOk_of ok fx hT' lk hcd rfl rfl rfl rfl rfl z)
      exact c
  · obtain ⟨q, hq, rfl⟩ := List.mem_map.mp hp
    exact sz.empty _ (List.mem_map.mpr ⟨q, hq, rfl⟩)
  · obtain ⟨q, hq, rfl⟩ := List.mem_map.mp hp
    exact sz.out _ (List.mem_map.mpr ⟨q, hq, rfl⟩)
  · obtain ⟨q, hq, rfl⟩ := List.mem_map.mp hp
    exact PySem.W.codeHd_of_K KX (sz.hd _ (List.mem_map.mpr ⟨q, hq, rfl⟩))
  · have hp := ok.par
    have nd : lf.ps.Nodup := by
      have := ok.S.pre
      rw [← this]
      exact ok.S.nd.sublist (List.take_sublist _ _)
    unfold plainP at hp
    split at hp
    · rename_i as e
      intro s u
      have hp := Option.some.inj hp
      rw [← hp] at nd
      have b := bind_all (us := [u]) (as := as) (fd := PySem.W.fnOf lf.kd.d.name lf.kd.d.qual lf.kd.d.params lf.kd.d.body lf.kd.d.scope .none kV doc pm an cdv ct) e rfl nd (by
        have := congrArg List.length hp
        rw [hps, List.length_map] at this
        simpa using this.symm)
      rw [hp, hps] at b
      exact .of_eq b
    · cases hp
  · have sq : Rd H a (.lst (ns.map V.int)) := by
      rcases hS with q | ⟨o, _, _, q1, q2, _⟩
      · exact q
      · exact absurd q2 (fx.nol a o q1)
    refine ⟨fun _ => False, [.lst (ns.map .int)], fun _ z => z.elim, fun p hp => ?_, ?_, ?_⟩
    · obtain ⟨q, hq, rfl⟩ := List.mem_map.mp hp
      exact ⟨#[], hH _ (List.mem_map.mpr ⟨q, hq, rfl⟩), trivial, fun pos cv z => by cases z⟩
    · show ArgR _ _ _ (T.fb g) _ _
      rw [hfb]
      exact ⟨.lst ⟨sq, fun z => z⟩ (reps_ints ns), trivial⟩
    · rw [show (T.en ((T.pe ir).F n) K).G.F g [.lst (ns.map .int)] = _ from hlaw ns hl]
      exact fun v H' s' r => by cases r; rfl
end
end Z

namespace Z
open PySem
def i_Map__len_ : Sx := (.seq (.ret (.blt .len (.cons (.att (.b 0) 1) .nil))) .nil)
def i_is_integer : Sx := (.seq (.ret (.an (.isi (.b 0) .int) (.an (.nt (.isi (.b 0) .bool)) (.chn .le .le (.b 1) (.b 0) (.b 2))))) .nil)
def i_are_rising : Sx := (.seq (.ret (.blt .all (.cons (.lc (.cmp .lt (.b 1) (.b 2)) (.tp (.cons (.nm 1) (.cons (.nm 2) .nil))) (.sZip (.b 0) (.sl (.b 0) (.k (.int 1)) .nil)) .tyes) .nil))) .nil)
def i_is_road : Sx := (.seq (.iff (.tor (.tnt (.tv (.isi (.b 0) .tuple))) (.tor (.tv (.cmp .ne (.blt .len (.cons (.b 0) .nil)) (.k (.int 3)))) (.tnt (.tv (.call 1 (.cons (.idx (.b 0) (.k (.int 2))) (.cons (.k (.int 1)) (.cons (.k (.int 9)) .nil)))))))) (.seq (.ret (.k (.bl false))) .nil) .nil) (.seq (.ret (.an (.blt .all (.cons (.lc (.call 1 (.cons (.v 2) (.cons (.k (.int 0)) (.cons (.bin .sub (.b 1) (.k (.int 1))) .nil)))) (.nm 2) (.sSeq (.sl (.b 0) .nil (.k (.int 2)))) .tyes) .nil)) (.cmp .lt (.idx (.b 0) (.k (.int 0))) (.idx (.b 0) (.k (.int 1)))))) .nil))
def i_Map : Sx := (.seq (.iff (.tnt (.tv (.call 1 (.cons (.v 1) (.cons (.k (.int 2)) (.cons (.k (.int 6)) .nil)))))) (.seq .nev .nil) .nil) (.seq (.iff (.tor (.tnt (.tv (.isi (.b 2) .tuple))) (.tnt (.tv (.chn .le .le (.k (.int 1)) (.blt .len (.cons (.b 2) .nil)) (.k (.int 8)))))) (.seq .nev .nil) .nil) (.seq (.iff (.tor (.tnt (.tv (.blt .all (.cons (.lc (.call 3 (.cons (.v 5) (.cons (.v 1) .nil))) (.nm 5) (.sSeq (.b 2)) .tyes) .nil)))) (.tnt (.tv (.call 2 (.cons (.v 2) .nil))))) (.seq .nev .nil) .nil) (.seq (.iff (.tor (.tnt (.tv (.isi (.b 3) .tuple))) (.tor (.tv (.cmp .ne (.blt .len (.cons (.b 3) .nil)) (.k (.int 2)))) (.tnt (.tv (.blt .all (.cons (.lc (.call 1 (.cons (.v 6) (.cons (.k (.int 0)) (.cons (.bin .sub (.b 1) (.k (.int 1))) .nil)))) (.nm 6) (.sSeq (.b 3)) .tyes) .nil)))))) (.seq .nev .nil) .nil) (.seq (.iff (.tv (.cmp .eq (.idx (.b 3) (.k (.int 0))) (.idx (.b 3) (.k (.int 1))))) (.seq .nev .nil) .nil) (.seq (.iff (.tnt (.tv (.call 1 (.cons (.v 4) (.cons (.k (.int 0)) (.cons (.k (.int 3)) .nil)))))) (.seq .nev .nil) .nil) (.seq (.fld 0 0 (.v 1)) (.seq (.fld 0 1 (.v 2)) (.seq (.fld 0 2 (.v 3)) (.seq (.fld 0 3 (.v 4)) .nil))))))))))
def i_check_map : Sx := (.seq (.iff (.tnt (.tv (.isi (.b 0) (.own 0)))) (.seq .nev .nil) .nil) .nil)
def i_roads_at : Sx := (.seq (.ret (.lc (.v 2) (.tp (.cons (.nm 2) (.cons (.nm 3) .nil))) (.sEnum (.att (.b 0) 1)) (.tv (.cmp .isin (.b 1) (.sl (.b 3) .nil (.k (.int 2))))))) .nil)
def i_parts_of : Sx := (.seq (.asgO 2 (.lst (.cons (.tup .nil) .nil))) (.seq (.forr (.nm 3) (.sSeq (.v 0)) (.seq (.ext 2 (.lc (.tup (.star (.b 4) (.cons (.v 3) .nil))) (.nm 4) (.sSeq (.b 2)) (.tv (.cmp .lt (.blt .len (.cons (.b 4) .nil)) (.b 1))))) .nil)) (.seq (.ret (.blt .slen (.cons (.b 2) .nil))) .nil)))
def i_seen_at : Sx := (.seq (.asg (.nm 4) (.lc (.v 8) (.nm 8) (.sSeq (.call 15 (.cons (.v 0) (.cons (.v 1) .nil)))) (.tan (.tv (.cmp .notin (.b 8) (.b 2))) (.tv (.cmp .notin (.b 8) (.b 3)))))) (.seq (.asgO 5 (.lst .nil)) (.seq (.forr (.nm 6) (.sSeq (.call 19 (.cons (.v 4) (.cons (.bin .sub (.att (.b 0) 3) (.blt .len (.cons (.b 3) .nil))) .nil)))) (.seq (.asg (.nm 7) (.lc (.v 8) (.nm 8) (.sSeq (.b 4)) (.tv (.cmp .notin (.b 8) (.b 6))))) (.seq (.app 5 (.tup (.cons (.v 1) (.cons (.blt .tuple (.cons (.blt .sorted (.cons (.lst (.star (.b 2) (.star (.b 7) .nil))) .nil)) .nil)) (.cons (.blt .tuple (.cons (.blt .sorted (.cons (.lst (.star (.b 3) (.star (.b 6) .nil))) .nil)) .nil)) .nil))))) .nil))) (.seq (.ret (.v 5)) .nil))))
def i_first_of : Sx := (.seq (.ret (.call 24 (.cons (.v 0) (.cons (.idx (.att (.b 0) 2) (.k (.int 0))) (.cons (.tup .nil) (.cons (.tup .nil) .nil)))))) .nil)
def i_first_states : Sx := (.seq (.drop (.call 11 (.cons (.v 0) .nil))) (.seq (.ret (.call 25 (.cons (.v 0) .nil))) .nil))
def i_worlds : Sx := (.seq (.drop (.call 11 (.cons (.v 0) .nil))) (.seq (.ret (.call 19 (.cons (.lrg (.k (.int 0)) (.blt .len (.cons (.b 0) .nil))) (.cons (.att (.b 0) 3) .nil)))) .nil))
def i_are_roads : Sx := (.seq (.iff (.tor (.tnt (.tv (.isi (.b 1) .tuple))) (.tnt (.tv (.blt .all (.cons (.lc (.call 1 (.cons (.v 2) (.cons (.k (.int 0)) (.cons (.bin .sub (.blt .len (.cons (.b 0) .nil)) (.k (.int 1))) .nil)))) (.nm 2) (.sSeq (.b 1)) .tyes) .nil))))) (.seq (.ret (.k (.bl false))) .nil) .nil) (.seq (.ret (.call 2 (.cons (.v 1) .nil))) .nil))
def i_is_world : Sx := (.seq (.ret (.an (.call 12 (.cons (.v 0) (.cons (.v 1) .nil))) (.cmp .le (.blt .len (.cons (.b 1) .nil)) (.att (.b 0) 3)))) .nil)
def i_check_world : Sx := (.seq (.drop (.call 11 (.cons (.v 0) .nil))) (.seq (.iff (.tnt (.tv (.call 13 (.cons (.v 0) (.cons (.v 1) .nil))))) (.seq .nev .nil) .nil) .nil))
def i_length_of : Sx := (.seq (.ret (.idx (.idx (.att (.b 0) 1) (.b 1)) (.k (.int 2)))) .nil)
def i_other_end : Sx := (.seq (.asg (.tp (.cons (.nm 3) (.cons (.nm 4) (.cons (.nm 5) .nil)))) (.idx (.att (.b 0) 1) (.b 1))) (.seq (.ret (.ite (.tv (.cmp .eq (.b 2) (.b 3))) (.v 4) (.v 3))) .nil))
def i_distance : Sx := (.seq (.par [(3, true), (4, true)] (.cons (.dct (.cons (.b 2) (.cons (.k (.int 0)) .nil))) (.cons (.lst (.cons (.v 2) .nil)) .nil))) (.seq (.whil (.tv (.cmp .ne (.b 4) (.lst .nil))) (.seq (.pop (.nm 5) 4 (.cons (.k (.int 0)) .nil)) (.seq (.forr (.nm 6) (.sSeq (.call 15 (.cons (.v 0) (.cons (.v 5) .nil)))) (.seq (.par [(7, false), (8, false)] (.cons (.call 16 (.cons (.v 0) (.cons (.v 6) (.cons (.v 5) .nil)))) (.cons (.bin .add (.idx (.b 3) (.b 5)) (.call 17 (.cons (.v 0) (.cons (.v 6) .nil)))) .nil))) (.seq (.iff (.tan (.tv (.cmp .notin (.b 6) (.b 1))) (.tor (.tv (.cmp .notin (.b 7) (.b 3))) (.tv (.cmp .lt (.b 8) (.idx (.b 3) (.b 7)))))) (.seq (.set 3 (.b 7) (.v 8)) (.seq (.app 4 (.v 7)) .nil)) .nil) .nil))) .nil))) (.seq (.ret (.dget (.b 3) (.idx (.att (.b 0) 2) (.k (.int 1))))) .nil)))
def i_open_length : Sx := (.seq (.drop (.call 14 (.cons (.v 0) (.cons (.v 1) .nil)))) (.seq (.ret (.call 18 (.cons (.v 0) (.cons (.v 1) (.cons (.idx (.att (.b 0) 2) (.k (.int 0))) .nil))))) .nil))
def i_is_state : Sx := (.seq (.iff (.tor (.tnt (.tv (.isi (.b 1) .tuple))) (.tor (.tv (.cmp .ne (.blt .len (.cons (.b 1) .nil)) (.k (.int 3)))) (.tnt (.tv (.call 1 (.cons (.idx (.b 1) (.k (.int 0))) (.cons (.k (.int 0)) (.cons (.bin .sub (.att (.b 0) 0) (.k (.int 1))) .nil)))))))) (.seq (.ret (.k (.bl false))) .nil) .nil) (.seq (.asg (.tp (.cons (.nm 2) (.cons (.nm 3) (.cons (.nm 4) .nil)))) (.v 1)) (.seq (.iff (.tor (.tnt (.tv (.call 12 (.cons (.v 0) (.cons (.v 3) .nil))))) (.tor (.tnt (.tv (.call 12 (.cons (.v 0) (.cons (.v 4) .nil))))) (.tv (.cmp .gt (.blt .len (.cons (.b 4) .nil)) (.att (.b 0) 3))))) (.seq (.ret (.k (.bl false))) .nil) .nil) (.seq (.iff (.tv (.blt .any (.cons (.lc (.cmp .isin (.b 5) (.b 4)) (.nm 5) (.sSeq (.b 3)) .tyes) .nil))) (.seq (.ret (.k (.bl false))) .nil) .nil) (.seq (.ret (.blt .all (.cons (.lc (.orr (.cmp .isin (.b 5) (.b 3)) (.cmp .isin (.b 5) (.b 4))) (.nm 5) (.sSeq (.call 15 (.cons (.v 0) (.cons (.v 2) .nil)))) .tyes) .nil))) .nil)))))
def i_check_state : Sx := (.seq (.drop (.call 11 (.cons (.v 0) .nil))) (.seq (.iff (.tnt (.tv (.call 22 (.cons (.v 0) (.cons (.v 1) .nil))))) (.seq .nev .nil) .nil) .nil))
def i_ways_from : Sx := (.seq (.ret (.lc (.v 2) (.nm 2) (.sSeq (.call 15 (.cons (.v 0) (.cons (.idx (.b 1) (.k (.int 0))) .nil)))) (.tv (.cmp .isin (.b 2) (.idx (.b 1) (.k (.int 1))))))) .nil)
def i_ways : Sx := (.seq (.drop (.call 23 (.cons (.v 0) (.cons (.v 1) .nil)))) (.seq (.ret (.call 27 (.cons (.v 0) (.cons (.v 1) .nil)))) .nil))
def i_after : Sx := (.seq (.ret (.call 24 (.cons (.v 0) (.cons (.call 16 (.cons (.v 0) (.cons (.v 2) (.cons (.idx (.b 1) (.k (.int 0))) .nil)))) (.cons (.idx (.b 1) (.k (.int 1))) (.cons (.idx (.b 1) (.k (.int 2))) .nil)))))) .nil)
def i_results : Sx := (.seq (.drop (.call 23 (.cons (.v 0) (.cons (.v 1) .nil)))) (.seq (.iff (.tor (.tnt (.tv (.call 1 (.cons (.v 2) (.cons (.k (.int 0)) (.cons (.bin .sub (.blt .len (.cons (.b 0) .nil)) (.k (.int 1))) .nil)))))) (.tv (.cmp .notin (.b 2) (.call 27 (.cons (.v 0) (.cons (.v 1) .nil)))))) (.seq .nev .nil) .nil) (.seq (.ret (.call 28 (.cons (.v 0) (.cons (.v 1) (.cons (.v 2) .nil))))) .nil)))
def i_Map_most : Sx := (.seq (.ret (.att (.b 0) 3)) .nil)
def i_Map_ends : Sx := (.seq (.ret (.att (.b 0) 2)) .nil)
def i_Map_roads : Sx := (.seq (.ret (.att (.b 0) 1)) .nil)
def i_Map_places : Sx := (.seq (.ret (.att (.b 0) 0)) .nil)
end Z
namespace Z
open PySem
def i__law_cell_at : Sx := (.seq (.iff (.tv (.cmp .lt (.b 1) (.blt .len (.cons (.b 0) .nil)))) (.seq (.ret (.idx (.b 0) (.b 1))) .nil) .nil) (.seq (.iff (.tv (.cmp .eq (.b 0) (.lst .nil))) (.seq (.ret (.bin .mul (.b 1) (.k (.int 48271)))) .nil) .nil) (.seq (.ret (.bin .mod (.blt .int (.cons (.bin .mul (.bin .add (.idx (.b 0) (.bin .mod (.blt .int (.cons (.b 1) .nil)) (.blt .len (.cons (.b 0) .nil)))) (.b 1)) (.k (.int 48271))) .nil)) (.k (.int 2147483647)))) .nil)))
def i__law_map : Sx := (.seq (.par [(4, false), (5, true)] (.cons (.bin .add (.k (.int 2)) (.bin .mod (.blt .int (.cons (.call 201 (.cons (.v 0) (.cons (.v 1) .nil))) .nil)) (.bin .sub (.b 2) (.k (.int 1))))) (.cons (.lst .nil) .nil))) (.seq (.forr (.nm 6) (.sRng (.k (.int 0)) (.bin .add (.k (.int 1)) (.bin .mod (.blt .int (.cons (.call 201 (.cons (.v 0) (.cons (.bin .add (.b 1) (.k (.int 1))) .nil))) .nil)) (.b 3)))) (.seq (.asg (.nm 9) (.bin .mod (.blt .int (.cons (.call 201 (.cons (.v 0) (.cons (.bin .add (.bin .add (.b 1) (.k (.int 4))) (.bin .mul (.k (.int 3)) (.b 6))) .nil))) .nil)) (.b 4))) (.seq (.asg (.nm 10) (.bin .mod (.blt .int (.cons (.bin .add (.bin .add (.b 9) (.k (.int 1))) (.bin .mod (.blt .int (.cons (.call 201 (.cons (.v 0) (.cons (.bin .add (.bin .add (.b 1) (.k (.int 5))) (.bin .mul (.k (.int 3)) (.b 6))) .nil))) .nil)) (.bin .sub (.b 4) (.k (.int 1))))) .nil)) (.b 4))) (.seq (.app 5 (.tup (.cons (.blt .min2 (.cons (.b 9) (.cons (.b 10) .nil))) (.cons (.blt .max2 (.cons (.b 9) (.cons (.b 10) .nil))) (.cons (.bin .add (.k (.int 1)) (.bin .mod (.blt .int (.cons (.call 201 (.cons (.v 0) (.cons (.bin .add (.bin .add (.b 1) (.k (.int 6))) (.bin .mul (.k (.int 3)) (.b 6))) .nil))) .nil)) (.k (.int 9)))) .nil))))) .nil)))) (.seq (.asg (.nm 7) (.bin .mod (.blt .int (.cons (.call 201 (.cons (.v 0) (.cons (.bin .add (.b 1) (.k (.int 2))) .nil))) .nil)) (.b 4))) (.seq (.asg (.nm 8) (.bin .mod (.blt .int (.cons (.bin .add (.bin .add (.b 7) (.k (.int 1))) (.bin .mod (.blt .int (.cons (.call 201 (.cons (.v 0) (.cons (.bin .add (.b 1) (.k (.int 3))) .nil))) .nil)) (.bin .sub (.b 4) (.k (.int 1))))) .nil)) (.b 4))) (.seq (.ret (.tup (.cons (.v 4) (.cons (.blt .tuple (.cons (.blt .sset (.cons (.b 5) .nil)) .nil)) (.cons (.tup (.cons (.v 7) (.cons (.v 8) .nil))) (.cons (.bin .mod (.blt .int (.cons (.call 201 (.cons (.v 0) (.cons (.bin .add (.b 1) (.k (.int 30))) .nil))) .nil)) (.k (.int 3))) .nil)))))) .nil)))))
def i__law_parts : Sx := (.seq (.asg (.nm 2) (.lst (.cons (.tup .nil) .nil))) (.seq (.forr (.nm 3) (.sSeq (.v 0)) (.seq (.asg (.nm 2) (.bin .add (.b 2) (.lc (.bin .add (.b 4) (.tup (.cons (.v 3) .nil))) (.nm 4) (.sSeq (.b 2)) (.tv (.cmp .lt (.blt .len (.cons (.b 4) .nil)) (.b 1)))))) .nil)) (.seq (.ret (.blt .slen (.cons (.b 2) .nil))) .nil)))
def i__law_at : Sx := (.seq (.ret (.lc (.v 2) (.tp (.cons (.nm 2) (.cons (.nm 3) .nil))) (.sEnum (.idx (.b 0) (.k (.int 1)))) (.tv (.cmp .isin (.b 1) (.sl (.b 3) .nil (.k (.int 2))))))) .nil)
def i__law_seen : Sx := (.seq (.par [(4, false), (5, true)] (.cons (.lc (.v 8) (.nm 8) (.sSeq (.call 205 (.cons (.v 0) (.cons (.v 1) .nil)))) (.tv (.cmp .notin (.b 8) (.bin .add (.b 2) (.b 3))))) (.cons (.lst .nil) .nil))) (.seq (.forr (.nm 6) (.sSeq (.call 204 (.cons (.v 4) (.cons (.bin .sub (.idx (.b 0) (.k (.int 3))) (.blt .len (.cons (.b 3) .nil))) .nil)))) (.seq (.asg (.nm 7) (.blt .tuple (.cons (.lc (.v 8) (.nm 8) (.sSeq (.b 4)) (.tv (.cmp .notin (.b 8) (.b 6)))) .nil))) (.seq (.app 5 (.tup (.cons (.v 1) (.cons (.blt .tuple (.cons (.blt .sorted (.cons (.bin .add (.b 2) (.b 7)) .nil)) .nil)) (.cons (.blt .tuple (.cons (.blt .sorted (.cons (.bin .add (.b 3) (.b 6)) .nil)) .nil)) .nil))))) .nil))) (.seq (.ret (.v 5)) .nil)))
def i__law_first : Sx := (.seq (.ret (.call 207 (.cons (.v 0) (.cons (.idx (.idx (.b 0) (.k (.int 2))) (.k (.int 0))) (.cons (.tup .nil) (.cons (.tup .nil) .nil)))))) .nil)
def i__law_far : Sx := (.seq (.asgO 3 (.bin .mul (.lst (.cons (.k .non) .nil)) (.idx (.b 0) (.k (.int 0))))) (.seq (.set 3 (.b 2) (.k (.int 0))) (.seq (.forr (.nm 4) (.sRng (.k (.int 0)) (.idx (.b 0) (.k (.int 0)))) (.seq (.forr (.tp (.cons (.nm 5) (.cons (.tp (.cons (.nm 6) (.cons (.nm 7) (.cons (.nm 8) .nil)))) .nil))) (.sEnum (.idx (.b 0) (.k (.int 1)))) (.seq (.iff (.tv (.cmp .notin (.b 5) (.b 1))) (.seq (.forr (.tp (.cons (.nm 9) (.cons (.nm 10) .nil))) (.sSeq (.lst (.cons (.tup (.cons (.v 6) (.cons (.v 7) .nil))) (.cons (.tup (.cons (.v 7) (.cons (.v 6) .nil))) .nil)))) (.seq (.iff (.tv (.cmp .notN (.idx (.b 3) (.b 9)) (.k .non))) (.seq (.asg (.nm 11) (.bin .add (.idx (.b 3) (.b 9)) (.b 8))) (.seq (.set 3 (.b 10) (.ite (.tor (.tv (.cmp .isN (.idx (.b 3) (.b 10)) (.k .non))) (.tv (.cmp .lt (.b 11) (.idx (.b 3) (.b 10))))) (.v 11) (.idx (.b 3) (.b 10)))) .nil)) .nil) .nil)) .nil) .nil) .nil)) .nil)) (.seq (.ret (.idx (.b 3) (.idx (.idx (.b 0) (.k (.int 2))) (.k (.int 1))))) .nil))))
def i__law_pick : Sx := (.seq (.ret (.idx (.b 2) (.bin .mod (.blt .int (.cons (.call 201 (.cons (.v 0) (.cons (.v 1) .nil))) .nil)) (.blt .len (.cons (.b 2) .nil))))) .nil)
def i__law_end : Sx := (.seq (.ret (.bin .sub (.bin .add (.idx (.idx (.idx (.b 0) (.k (.int 1))) (.b 1)) (.k (.int 0))) (.idx (.idx (.idx (.b 0) (.k (.int 1))) (.b 1)) (.k (.int 1)))) (.b 2))) .nil)
def i_law : Sx := (.seq (.asg (.nm 1) (.call 203 (.cons (.v 0) (.cons (.k (.int 0)) (.cons (.k (.int 6)) (.cons (.k (.int 8)) .nil)))))) (.seq (.asg (.nm 2) (.call 4 (.cons (.idx (.b 1) (.k (.int 0))) (.cons (.idx (.b 1) (.k (.int 1))) (.cons (.idx (.b 1) (.k (.int 2))) (.cons (.idx (.b 1) (.k (.int 3))) .nil)))))) (.seq (.iff (.tor (.tv (.cmp .ne (.tup (.cons (.att (.b 2) 4) (.cons (.att (.b 2) 5) (.cons (.att (.b 2) 6) (.cons (.att (.b 2) 7) .nil))))) (.b 1))) (.tv (.cmp .ne (.blt .len (.cons (.b 2) .nil)) (.blt .len (.cons (.idx (.b 1) (.k (.int 1))) .nil))))) (.seq (.ret (.k (.bl false))) .nil) .nil) (.seq (.asg (.nm 3) (.call 204 (.cons (.lrg (.k (.int 0)) (.blt .len (.cons (.idx (.b 1) (.k (.int 1))) .nil))) (.cons (.idx (.b 1) (.k (.int 3))) .nil)))) (.seq (.iff (.tor (.tv (.cmp .ne (.call 21 (.cons (.v 2) .nil)) (.b 3))) (.tv (.cmp .ne (.call 29 (.cons (.v 2) .nil)) (.call 208 (.cons (.v 1) .nil))))) (.seq (.ret (.k (.bl false))) .nil) .nil) (.seq (.iff (.tv (.cmp .ne (.lc (.call 20 (.cons (.v 2) (.cons (.v 9) .nil))) (.nm 9) (.sSeq (.b 3)) .tyes) (.lc (.call 210 (.cons (.v 1) (.cons (.v 9) (.cons (.idx (.idx (.b 1) (.k (.int 2))) (.k (.int 0))) .nil)))) (.nm 9) (.sSeq (.b 3)) .tyes))) (.seq (.ret (.k (.bl false))) .nil) .nil) (.seq (.asg (.nm 4) (.call 202 (.cons (.v 0) (.cons (.k (.int 40)) (.cons (.call 208 (.cons (.v 1) .nil)) .nil))))) (.seq (.forr (.nm 5) (.sRng (.k (.int 0)) (.k (.int 8))) (.seq (.asg (.nm 6) (.lc (.v 7) (.nm 7) (.sSeq (.call 205 (.cons (.v 1) (.cons (.idx (.b 4) (.k (.int 0))) .nil)))) (.tv (.cmp .isin (.b 7) (.idx (.b 4) (.k (.int 1))))))) (.seq (.iff (.tv (.cmp .ne (.call 30 (.cons (.v 2) (.cons (.v 4) .nil))) (.b 6))) (.seq (.ret (.k (.bl false))) .nil) .nil) (.seq (.iff (.tv (.cmp .eq (.b 6) (.lst .nil))) (.seq (.ret (.k (.bl true))) .nil) .nil) (.seq (.asg (.nm 7) (.call 202 (.cons (.v 0) (.cons (.bin .add (.k (.int 50)) (.b 5)) (.cons (.v 6) .nil))))) (.seq (.asg (.nm 8) (.call 207 (.cons (.v 1) (.cons (.call 206 (.cons (.v 1) (.cons (.v 7) (.cons (.idx (.b 4) (.k (.int 0))) .nil)))) (.cons (.idx (.b 4) (.k (.int 1))) (.cons (.idx (.b 4) (.k (.int 2))) .nil)))))) (.seq (.iff (.tv (.cmp .ne (.call 31 (.cons (.v 2) (.cons (.v 4) (.cons (.v 7) .nil)))) (.b 8))) (.seq (.ret (.k (.bl false))) .nil) .nil) (.seq (.asg (.nm 4) (.call 202 (.cons (.v 0) (.cons (.bin .add (.k (.int 60)) (.b 5)) (.cons (.v 8) .nil))))) .nil)))))))) (.seq (.ret (.k (.bl true))) .nil)))))))))
end Z

/-! P0: the small language at work: helpers. -/
namespace Z
open PySem
theorem ints_map : ∀ xs : List Int, D.ints (xs.map .int) = some xs
  | [] => rfl
  | x :: xs => by rw [List.map_cons, D.ints, ints_map xs]; rfl
theorem rows_map : ∀ xs : List (List Int), D.rows (xs.map rowD) = some xs
  | [] => rfl
  | x :: xs => by
    rw [List.map_cons]
    show (match D.ints (x.map .int), D.rows (xs.map rowD) with
      | some x, some xs => some (x :: xs)
      | _, _ => none) = _
    rw [ints_map, rows_map xs]
theorem bls_map : ∀ xs : List Bool, D.bls (xs.map .bl) = some xs
  | [] => rfl
  | x :: xs => by rw [List.map_cons, D.bls, bls_map xs]; rfl
/-! ### plain data that can be compared -/
mutual
def D.lay : D → Bool
  | .non => true
  | .bl _ => true
  | .int _ => true
  | .tup ds => D.lays ds
  | .lst ds => D.lays ds
  | _ => false
def D.lays : List D → Bool
  | [] => true
  | d :: r => d.lay && D.lays r
end
mutual
def D.dep : D → Nat
  | .tup ds => D.deps ds + 1
  | .lst ds => D.deps ds + 1
  | _ => 0
def D.deps : List D → Nat
  | [] => 0
  | d :: r => max d.dep (D.deps r)
end
mutual
theorem lay_py : ∀ d : D, d.lay = true → ∃ p, d.py = some p ∧ p.canLay0 = true ∧ p.depth = d.dep
  | .non, _ => ⟨_, rfl, rfl, rfl⟩
  | .bl b, _ => ⟨_, rfl, rfl, rfl⟩
  | .int b, _ => ⟨_, rfl, rfl, rfl⟩
  | .tup ds, h => by
    obtain ⟨ps, h1, h2, h3⟩ := lay_pys ds h
    exact ⟨.tuple ps, by rw [D.py, h1]; rfl, by rw [PyData.canLay0]; exact h2, by rw [PyData.depth, D.dep, h3]⟩
  | .lst ds, h => by
    obtain ⟨ps, h1, h2, h3⟩ := lay_pys ds h
    exact ⟨.list ps, by rw [D.py, h1]; rfl, by rw [PyData.canLay0]; exact h2, by rw [PyData.depth, D.dep, h3]⟩
  | .str _, h => nomatch h
  | .dic _ _, h => nomatch h
  | .ins _ _, h => nomatch h
theorem lay_pys : ∀ ds : List D, D.lays ds = true → ∃ ps, D.pys ds = some ps ∧ PyData.canLayAll0 ps = true ∧ PyData.depthAll ps = D.deps ds
  | [], _ => ⟨[], rfl, rfl, rfl⟩
  | d :: r, h => by
    obtain ⟨h1, h2⟩ := Bool.and_eq_true_iff.mp (show (d.lay && D.lays r) = true from h)
    obtain ⟨p, a1, a2, a3⟩ := lay_py d h1
    obtain ⟨ps, b1, b2, b3⟩ := lay_pys r h2
    exact ⟨p :: ps, by rw [D.pys, a1, b1], by rw [PyData.canLayAll0, a2, b2]; rfl, by rw [PyData.depthAll, D.deps, a3, b3]⟩
end
theorem dEq_refl {d : D} (h : d.lay = true) (hd : d.dep ≤ 64) : dEq d d = .ok true := by
  obtain ⟨p, h1, h2, h3⟩ := lay_py d h
  unfold dEq
  simp only [h1]
  have s : SeqAt.shaped p = true := by
    unfold SeqAt.shaped
    rw [h2, h3]
    simpa using hd
  rw [s, SeqAt.eqv_refl p h2]
  rfl
theorem dEq_int (i j : Int) : dEq (.int i) (.int j) = .ok (i == j) := rfl
theorem dNe_int (i j : Int) : dCmp .ne (.int i) (.int j) = .ok (.bl (!(i == j))) := rfl
theorem eqvInts (x : Int) : ∀ xs : List Int, (xs.map PyData.int).any (fun z => PyData.eqv z (.int x)) = decide (x ∈ xs)
  | [] => by simp
  | y :: ys => by
    rw [List.map_cons, List.any_cons, eqvInts x ys]
    have : PyData.eqv (.int y) (.int x) = (y == x) := rfl
    rw [this]
    by_cases h : x = y
    · subst h; simp
    · have h' : ¬ y = x := fun z => h z.symm
      simp [h, h']
theorem pys_ints : ∀ xs : List Int, D.pys (xs.map .int) = some (xs.map .int)
  | [] => rfl
  | x :: xs => by rw [List.map_cons, D.pys, pys_ints xs]; rfl
theorem layInts : ∀ xs : List Int, PyData.canLayAll0 (xs.map .int) = true ∧ PyData.depthAll (xs.map .int) = 0
  | [] => ⟨rfl, rfl⟩
  | x :: xs => by
    obtain ⟨h1, h2⟩ := layInts xs
    rw [List.map_cons, PyData.canLayAll0, PyData.depthAll, h1, h2]
    exact ⟨rfl, rfl⟩
theorem dIn_int (x : Int) (xs : List Int) : dIn (.int x) (xs.map .int) = .ok (decide (x ∈ xs)) := by
  have e : (D.lst (xs.map .int)).py = some (.list (xs.map .int)) := by rw [D.py, pys_ints]; rfl
  unfold dIn
  rw [e]
  show chk (SeqAt.shaped (.int x) && SeqAt.shaped (.list (xs.map PyData.int))) ((xs.map PyData.int).any fun z => PyData.eqv z (.int x)) = _
  have s : SeqAt.shaped (.list (xs.map PyData.int)) = true := by
    unfold SeqAt.shaped
    rw [PyData.canLay0, PyData.depth, (layInts xs).1, (layInts xs).2]
    rfl
  rw [s, eqvInts]
  rfl
theorem isin_lst (x : Int) (xs : List Int) : dCmp .isin (.int x) (.lst (xs.map .int)) = .ok (.bl (decide (x ∈ xs))) := by
  show (dIn _ _).bind _ = _
  rw [dIn_int]; rfl
theorem isin_tup (x : Int) (xs : List Int) : dCmp .isin (.int x) (.tup (xs.map .int)) = .ok (.bl (decide (x ∈ xs))) := by
  show (dIn _ _).bind _ = _
  rw [dIn_int]; rfl
theorem notin_lst (x : Int) (xs : List Int) : dCmp .notin (.int x) (.lst (xs.map .int)) = .ok (.bl (!decide (x ∈ xs))) := by
  show (dIn _ _).bind _ = _
  rw [dIn_int]; rfl
theorem notin_tup (x : Int) (xs : List Int) : dCmp .notin (.int x) (.tup (xs.map .int)) = .ok (.bl (!decide (x ∈ xs))) := by
  show (dIn _ _).bind _ = _
  rw [dIn_int]; rfl
/-! ### comprehensions, loops -/
theorem lcGo_map {α : Type} {t : Tg} {e : Sl → R D} {c : Sl → R Bool} {st : Sl} (f : α → D) (p : α → Bool) (g : α → D) : ∀ {xs : List α}, (∀ x ∈ xs, ∃ st', bindT t (f x) st = some st' ∧ c st' = .ok (p x) ∧ (p x = true → e st' = .ok (g x))) →
    lcGo t e c st (xs.map f) = .ok ((xs.filter p).map g)
  | [], _ => rfl
  | x :: xs, h => by
    obtain ⟨st', h1, h2, h3⟩ := h x List.mem_cons_self
    have ih := lcGo_map f p g (xs := xs) fun y hy => h y (List.mem_cons_of_mem _ hy)
    rw [List.map_cons, lcGo, h1]
    show (c st').bind _ = _
    rw [h2]
    cases hp : p x with
    | false =>
      show lcGo t e c st (xs.map f) = _
      rw [ih, List.filter_cons_of_neg (by rw [hp]; exact Bool.false_ne_true)]
    | true =>
      show (e st').bind _ = _
      rw [h3 hp, List.filter_cons_of_pos hp, List.map_cons]
      show (lcGo t e c st (xs.map f)).bind _ = _
      rw [ih]
      rfl
theorem forGo_inv {α S : Type} {t : Tg} {body : Sl → Out} (f : α → D) (step : S → α → S) (Inv : S → Sl → Prop) : ∀ {xs : List α} {s : S} {st : Sl}, (∀ x ∈ xs, ∀ s st, Inv s st → ∃ st1 st2, bindT t (f x) st = some st1 ∧ (body st1 = .nx st2 ∨ body st1 = .ct st2) ∧ Inv (step s x) st2) → Inv s st →
    ∃ st', forGo t body (xs.map f) st = .nx st' ∧ Inv (xs.foldl step s) st'
  | [], s, st, _, h => ⟨st, rfl, h⟩
  | x :: xs, s, st, hs, h => by
    obtain ⟨st1, st2, h1, h2, h3⟩ := hs x List.mem_cons_self s st h
    obtain ⟨st', h4, h5⟩ := forGo_inv f step Inv (xs := xs) (fun y hy => hs y (List.mem_cons_of_mem _ hy)) h3
    refine ⟨st', ?_, h5⟩
    rw [List.map_cons, forGo, h1]
    rcases h2 with h2 | h2
    · show (match body st1 with | .nx st2 => forGo t body (xs.map f) st2 | .ct st2 => forGo t body (xs.map f) st2 | .bk st2 => .nx st2 | o => o) = _
      rw [h2]
      exact h4
    · show (match body st1 with | .nx st2 => forGo t body (xs.map f) st2 | .ct st2 => forGo t body (xs.map f) st2 | .bk st2 => .nx st2 | o => o) = _
      rw [h2]
      exact h4
theorem rngD_map (lo : Int) (n : Nat) : rngD lo n = (List.range n).map fun (i : Nat) => D.int (lo + i) := rfl
/-! ### more rounds change nothing -/
theorem Pe.up {T : Pe} {g : Nat} {ds : List D} {r : D} {j k : Nat} (h : T.F j g ds = .ok r) (hk : j ≤ k) : T.F k g ds = .ok r := by
  obtain ⟨m, rfl⟩ : ∃ m, k = j + m := ⟨k - j, by omega⟩
  clear hk
  induction m with
  | zero => exact h
  | succ m ih =>
    rcases T.F_le (j + m) g ds with q | q
    · rw [ih] at q; cases q
    · rw [← Nat.add_assoc, q]; exact ih
theorem Pe.fn {T : Pe} {g : Nat} {ds : List D} {k : Nat} {ir : Sx} {n : Nat} (h : T.ir g = some (.fn ir n)) : T.F (k + 1) g ds = evB (T.pg (T.F k)) ir (T.fb g) n ds := by
  show T.run (T.F k) g ds = _
  unfold Pe.run
  rw [h]
theorem Pe.nlf {T : Pe} {g : Nat} {ds : List D} {k : Nat} {ir : Sx} {n : Nat} (h : T.ir g = some (.nl ir n)) : T.F (k + 1) g ds = evB (T.pg (T.F k)).nl ir (T.fb g) n ds := by
  show T.run (T.F k) g ds = _
  unfold Pe.run
  rw [h]
theorem Pe.mkf {T : Pe} {g : Nat} {ds : List D} {k : Nat} {ir : Sx} {c m n : Nat} (h : T.ir g = some (.mk c m ir n)) : T.F (k + 1) g ds = evM (T.pg (T.F k)) ir (T.fb g) n c m ds := by
  show T.run (T.F k) g ds = _
  unfold Pe.run
  rw [h]
/-! ### rules of the small language -/
section
variable {G : Pg} {st st1 st' : Sl} {o : Out} {d : D}
def outR : Out → R D
  | .nx _ => .ok .non
  | .rt d => .ok d
  | .ex x _ => .ex x
  | _ => .no
theorem q_body {ir : Sx} {bs : List Bool} {n : Nat} {ds : List D} (hl : bs.length = ds.length) (h : evS G ir (argS bs ds n) = o) : evB G ir bs n ds = outR o := by
  unfold evB
  rw [if_pos hl, h]
  cases o <;> rfl
theorem q_seq {s r : Sx} (h : evS G s st = .nx st1) (h2 : evS G r st1 = o) : evS G (.seq s r) st = o := by
  rw [evS, h]; exact h2
theorem q_seqR {s r : Sx} (h : evS G s st = .rt d) : evS G (.seq s r) st = .rt d := by
  rw [evS, h]
theorem q_nil : evS G .nil st = .nx st := rfl
theorem q_ret {e : Ex} (hb : isB e = false) (h : ev G e (frz st) = .ok d) : evS G (.ret e) st = .rt d := by
  rw [evS, hb, h]; rfl
theorem q_asg {t : Tg} {e : Ex} (hb : isB e = false) (h : ev G e st = .ok d) (h2 : bindT t d st = some st') : evS G (.asg t e) st = .nx st' := by
  rw [evS, hb, h]
  show Out.of (bindT t d st) = _
  rw [h2]; rfl
theorem q_asgO {i : Nat} {e : Ex} (hf : isFr e = true) (h : ev G e st = .ok d) (h2 : setO st i d = some st') : evS G (.asgO i e) st = .nx st' := by
  rw [evS, hf, h]
  show Out.of (setO st i d) = _
  rw [h2]; rfl
theorem q_par {l : List (Nat × Bool)} {e : Ex} {ds : List D} (hp : parOk l e = true) (h : evL G e st = .ok ds) (h2 : parT l ds st = some st') : evS G (.par l e) st = .nx st' := by
  rw [evS, hp, h]
  show Out.of (parT l ds st) = _
  rw [h2]; rfl
theorem q_iff {c : Ex} {a b : Sx} {x : Bool} (h : evT G c st = .ok x) (h2 : (if x = true then evS G a st else evS G b st) = o) : evS G (.iff c a b) st = o := by
  rw [evS, h]; exact h2
theorem q_iffT {c : Ex} {a b : Sx} (h : evT G c st = .ok true) (h2 : evS G a st = o) : evS G (.iff c a b) st = o := q_iff h h2
theorem q_iffF {c : Ex} {a b : Sx} (h : evT G c st = .ok false) (h2 : evS G b st = o) : evS G (.iff c a b) st = o := q_iff h h2
theorem q_for {t : Tg} {s : Ex} {a : Sx} {xs : List D} (h : evI G s st = .ok xs) (h2 : forGo t (evS G a) xs st = o) : evS G (.forr t s a) st = o := by
  rw [evS, h]; exact h2
theorem q_app {i : Nat} {e : Ex} {ds : List D} (hi : st[i]? = some (some (.own (.lst ds)))) (hb : isB e = false) (h : ev G e st = .ok d) (hl : ds.length < 1000000) : evS G (.app i e) st = .nx (st.set i (some (.own (.lst (ds ++ [d]))))) := by
  rw [evS]
  simp only [hi, hb, h]
  show (if ds.length < 1000000 then _ else _) = _
  rw [if_pos hl]
theorem q_ext {i : Nat} {e : Ex} {ds es : List D} (hi : st[i]? = some (some (.own (.lst ds)))) (hb : isB e = false) (h : ev G e st = .ok (.lst es)) (hl : ds.length + es.length ≤ 1000000) : evS G (.ext i e) st = .nx (st.set i (some (.own (.lst (ds ++ es))))) := by
  rw [evS]
  simp only [hi, hb, h]
  show (if ds.length + es.length ≤ 1000000 then _ else _) = _
  rw [if_pos hl]
theorem x_call {f : Nat} {l : Ex} {ds : List D} {r : R D} (h : evL G l st = .ok ds) (h2 : G.F f ds = r) : ev G (.call f l) st = r := by
  rw [ev, h]; exact h2
theorem x_lc {e s c : Ex} {t : Tg} {xs ds : List D} (h : evI G s st = .ok xs) (hl : xs.length ≤ 1000000) (h2 : lcGo t (ev G e) (evT G c) st xs = .ok ds) : ev G (.lc e t s c) st = .ok (.lst ds) := by
  rw [ev, h]
  show ((chk (decide (xs.length ≤ 1000000)) ()).bind fun _ => (nx (lcGo t (ev G e) (evT G c) st xs)).bind fun ds => R.ok (D.lst ds)) = _
  rw [decide_eq_true hl, h2]; rfl
theorem x_blt {f : Bf} {l : Ex} {ds : List D} (h : evL G l st = .ok ds) (h2 : dBlt G f ds = .ok d) : ev G (.blt f l) st = .ok d := by
  rw [ev, h]
  show nx (dBlt G f ds) = _
  rw [h2]; rfl
theorem l_cons {x r : Ex} {ds : List D} (h : ev G x st = .ok d) (h2 : evL G r st = .ok ds) : evL G (.cons x r) st = .ok (d :: ds) := by
  rw [evL, h]
  show (evL G r st).bind _ = _
  rw [h2]; rfl
theorem l_one {x : Ex} (h : ev G x st = .ok d) : evL G (.cons x .nil) st = .ok [d] := l_cons h rfl
theorem i_seq {x : Ex} {ds : List D} (h : ev G x st = .ok d) (h2 : seqD d = .ok ds) : evI G (.sSeq x) st = .ok ds := by
  rw [evI, h]; exact h2
theorem t_v {x : Ex} {b : Bool} (h : ev G x st = .ok (.bl b)) : evT G (.tv x) st = .ok b := by
  rw [evT, h]; rfl
theorem t_and {x y : Ex} {a b : Bool} (h : evT G x st = .ok a) (h2 : a = true → evT G y st = .ok b) : evT G (.tan x y) st = .ok (a && b) := by
  rw [evT, h]
  cases a with
  | true => exact h2 rfl
  | false => rfl
theorem t_or {x y : Ex} {a b : Bool} (h : evT G x st = .ok a) (h2 : a = false → evT G y st = .ok b) : evT G (.tor x y) st = .ok (a || b) := by
  rw [evT, h]
  cases a with
  | true => rfl
  | false => exact h2 rfl
theorem t_not {x : Ex} {a : Bool} (h : evT G x st = .ok a) : evT G (.tnt x) st = .ok (!a) := by
  rw [evT, h]; rfl
theorem x_cmp {op : Co} {x y : Ex} {a b : D} (h : ev G x st = .ok a) (h2 : ev G y st = .ok b) (h3 : dCmp op a b = .ok d) : ev G (.cmp op x y) st = .ok d := by
  rw [ev, h]
  show ((ev G y st).bind fun b => nx (dCmp op a b)) = _
  rw [h2]
  show nx (dCmp op a b) = _
  rw [h3]; rfl
theorem x_bin {op : Bo} {x y : Ex} {a b : D} (h : ev G x st = .ok a) (h2 : ev G y st = .ok b) (h3 : dBin op a b = .ok d) : ev G (.bin op x y) st = .ok d := by
  rw [ev, h]
  show ((ev G y st).bind fun b => nx (dBin op a b)) = _
  rw [h2]
  show nx (dBin op a b) = _
  rw [h3]; rfl
theorem x_idx {x y : Ex} {a b : D} (h : ev G x st = .ok a) (h2 : ev G y st = .ok b) (h3 : dIdx a b = .ok d) : ev G (.idx x y) st = .ok d := by
  rw [ev, h]
  show ((ev G y st).bind fun b => nx (dIdx a b)) = _
  rw [h2]
  show nx (dIdx a b) = _
  rw [h3]; rfl
theorem x_slot {x : Ex} {n c j : Nat} {fs : List D} (h : ev G x st = .ok (.ins c fs)) (hs : G.sl c n = some j) (hj : fs[j]? = some d) : ev G (.att x n) st = .ok d := by
  rw [ev, h]
  show (match G.sl c n with | some j => rb fs[j]? R.ok | none => _) = _
  rw [hs]
  show rb fs[j]? R.ok = _
  rw [hj]; rfl
theorem x_prop {x : Ex} {n c f : Nat} {fs : List D} (h : ev G x st = .ok (.ins c fs)) (hs : G.sl c n = none) (hp : G.pr c n = some f) (hf : G.F f [.ins c fs] = .ok d) : ev G (.att x n) st = .ok d := by
  rw [ev, h]
  show (match G.sl c n with | some j => _ | none => rb (G.pr c n) fun f => nx (G.F f [.ins c fs])) = _
  rw [hs]
  show (rb (G.pr c n) fun f => nx (G.F f [.ins c fs])) = _
  rw [hp]
  show nx (G.F f [.ins c fs]) = _
  rw [hf]; rfl
theorem x_tup {l : Ex} {ds : List D} (h : evL G l st = .ok ds) (hl : ds.length ≤ 1000000) : ev G (.tup l) st = .ok (.tup ds) := by
  rw [ev, h]
  show chk (decide (ds.length ≤ 1000000)) (D.tup ds) = _
  rw [decide_eq_true hl]; rfl
theorem x_lst {l : Ex} {ds : List D} (h : evL G l st = .ok ds) (hl : ds.length ≤ 1000000) : ev G (.lst l) st = .ok (.lst ds) := by
  rw [ev, h]
  show chk (decide (ds.length ≤ 1000000)) (D.lst ds) = _
  rw [decide_eq_true hl]; rfl
theorem x_iteT {c x y : Ex} {r : R D} (h : evT G c st = .ok true) (h2 : ev G x st = r) : ev G (.ite c x y) st = r := by rw [ev, h]; exact h2
theorem x_iteF {c x y : Ex} {r : R D} (h : evT G c st = .ok false) (h2 : ev G y st = r) : ev G (.ite c x y) st = r := by rw [ev, h]; exact h2
end
end Z

/-! P1: what the defs of maps and walks compute (roads, parts, states). -/
namespace Z
open PySem
abbrev Way := Int × Int × Int
def wayD (w : Way) : D := .tup [.int w.1, .int w.2.1, .int w.2.2]
structure Ch where
  many : Int
  ways : List Way
  a : Int
  b : Int
  limit : Int
def encC (c : Ch) : D := .ins 0 [.tup [.int c.a, .int c.b], .int c.limit, .int c.many, .tup (c.ways.map wayD)]
def encP (c : Ch) : D := .tup [.int c.many, .tup (c.ways.map wayD), .tup [.int c.a, .int c.b], .int c.limit]
def iT (xs : List Int) : D := .tup (xs.map .int)
def iL (xs : List Int) : D := .lst (xs.map .int)
/-- a way touches a place -/
def tch (p : Int) (w : Way) : Bool := decide (p = w.1 ∨ p = w.2.1)
def rAt (p : Int) (ws : List Way) : List Int := ((ws.zipIdx 0).filter fun q => tch p q.1).map fun q => (q.2 : Int)
theorem enumD_map (f : Way → D) : ∀ (n : Nat) (ws : List Way), enumD n (ws.map f) = (ws.zipIdx n).map fun q => D.tup [.int q.2, f q.1]
  | n, [] => rfl
  | n, w :: ws => by rw [List.map_cons, enumD, enumD_map f (n + 1) ws, List.zipIdx_cons, List.map_cons]
theorem isin2 (x a b : Int) : dCmp .isin (.int x) (.tup [.int a, .int b]) = .ok (.bl (decide (x = a ∨ x = b))) := by
  have h := isin_tup x [a, b]
  simpa using h
theorem eqC_int (i j : Int) : dCmp .eq (.int i) (.int j) = .ok (.bl (i == j)) := rfl
theorem atI_map' {α β : Type} (f : α → β) (xs : List α) (i : Int) : L2.atI (xs.map f) i = (L2.atI xs i).map f := by
  unfold L2.atI
  rw [List.length_map]
  cases L2.ixN xs.length i with
  | none => rfl
  | some j => simp
structure MapG (G : Pg) : Prop where
  many : G.sl 0 0 = some 2
  ways : G.sl 0 1 = some 3
  aims : G.sl 0 2 = some 0
  limit : G.sl 0 3 = some 1
section
variable {G : Pg}
/-! ### roads at a place -/
theorem at_key (c : Ch) (p : Int) (d0 : D) : lcGo (.tp (.cons (.nm 2) (.cons (.nm 3) .nil))) (ev G (.v 2)) (evT G (.tv (.cmp .isin (.b 1) (.sl (.b 3) .nil (.k (.int 2)))))) [some (.val d0), some (.val (.int p)), none, none] (enumD 0 (c.ways.map wayD)) = .ok ((rAt p c.ways).map .int) := by
  have key := lcGo_map (t := .tp (.cons (.nm 2) (.cons (.nm 3) .nil))) (e := ev G (.v 2)) (c := evT G (.tv (.cmp .isin (.b 1) (.sl (.b 3) .nil (.k (.int 2)))))) (st := [some (.val d0), some (.val (.int p)), none, none])
    (fun q : Way × Nat => D.tup [.int q.2, wayD q.1]) (fun q => tch p q.1) (fun q => .int (q.2 : Int)) (xs := c.ways.zipIdx 0) (fun q _ => by
      refine ⟨[some (.val d0), some (.val (.int p)), some (.val (.int q.2)), some (.val (wayD q.1))], rfl, ?_, fun _ => rfl⟩
      have e := isin2 p q.1.1 q.1.2.1
      simp [evT, ev, getB, R.bind, isNo, dPart, nx, dSl, cutD, HT.sIx, wayD, e, dTru, tch])
  rw [enumD_map, key]
  unfold rAt
  rw [List.map_map]
  rfl
theorem roads_at_ev (hG : MapG G) (c : Ch) (p : Int) (hl : c.ways.length ≤ 8) : evB G i_roads_at [false, false] 4 [encC c, .int p] = .ok (iL (rAt p c.ways)) :=
  q_body rfl (q_seqR (q_ret rfl (x_lc (xs := enumD 0 (c.ways.map wayD)) (by
    show ((ev G (.att (.b 0) 1) _).bind fun a => (seqD a).bind fun ds => R.ok (enumD 0 ds)) = _
    rw [x_slot (d := .tup (c.ways.map wayD)) (c := 0) (j := 3) (fs := [.tup [.int c.a, .int c.b], .int c.limit, .int c.many, .tup (c.ways.map wayD)]) rfl hG.ways rfl]
    rfl) (by rw [enumD_len, List.length_map]; omega) (at_key c p (encC c)))))
theorem law_at_ev (c : Ch) (p : Int) (hl : c.ways.length ≤ 8) : evB G i__law_at [false, false] 4 [encP c, .int p] = .ok (iL (rAt p c.ways)) :=
  q_body rfl (q_seqR (q_ret rfl (x_lc (xs := enumD 0 (c.ways.map wayD)) rfl (by rw [enumD_len, List.length_map]; omega) (at_key c p (encP c)))))
/-! ### ends, lengths -/
def oEnd (w : Way) (p : Int) : Int := if p = w.1 then w.2.1 else w.1
theorem ways_ix (c : Ch) {r : Int} {w : Way} (h : L2.atI c.ways r = some w) : dIdx (.tup (c.ways.map wayD)) (.int r) = .ok (wayD w) := by
  show rb (L2.atI (c.ways.map wayD) r) R.ok = _
  rw [atI_map', h]; rfl
theorem other_end_ev (hG : MapG G) (c : Ch) {r p : Int} {w : Way} (h : L2.atI c.ways r = some w) : evB G i_other_end [false, false, false] 6 [encC c, .int r, .int p] = .ok (.int (oEnd w p)) := by
  refine q_body (o := .rt (.int (oEnd w p))) rfl (q_seq (st1 := [some (.val (encC c)), some (.val (.int r)), some (.val (.int p)), some (.val (.int w.1)), some (.val (.int w.2.1)), some (.val (.int w.2.2))]) (q_asg (d := wayD w) rfl
    (x_idx (a := .tup (c.ways.map wayD)) (b := .int r) (x_slot (c := 0) (j := 3) (fs := [.tup [.int c.a, .int c.b], .int c.limit, .int c.many, .tup (c.ways.map wayD)]) rfl hG.ways rfl) rfl (ways_ix c h)) rfl) (q_seqR (q_ret rfl ?_)))
  unfold oEnd
  by_cases e : p = w.1
  · rw [if_pos e]
    exact x_iteT (t_v (x_cmp (a := .int p) (b := .int w.1) (d := .bl true) rfl rfl (by rw [eqC_int, e]; simp))) rfl
  · rw [if_neg e]
    exact x_iteF (t_v (x_cmp (a := .int p) (b := .int w.1) (d := .bl false) rfl rfl (by rw [eqC_int]; simp [e]))) rfl
theorem length_of_ev (hG : MapG G) (c : Ch) {r : Int} {w : Way} (h : L2.atI c.ways r = some w) : evB G i_length_of [false, false] 2 [encC c, .int r] = .ok (.int w.2.2) :=
  q_body (o := .rt (.int w.2.2)) rfl (q_seqR (q_ret rfl (x_idx (a := wayD w) (b := .int 2) (x_idx (a := .tup (c.ways.map wayD)) (b := .int r) (x_slot (c := 0) (j := 3) (fs := [.tup [.int c.a, .int c.b], .int c.limit, .int c.many, .tup (c.ways.map wayD)]) rfl hG.ways rfl) rfl (ways_ix c h)) rfl rfl)))
theorem law_end_ev (c : Ch) {r p : Int} {w : Way} (h : L2.atI c.ways r = some w) : evB G i__law_end [false, false, false] 3 [encP c, .int r, .int p] = .ok (.int (w.1 + w.2.1 - p)) := by
  have k : ev G (.idx (.idx (.b 0) (.k (.int 1))) (.b 1)) [some (.val (encP c)), some (.val (.int r)), some (.val (.int p))] = .ok (wayD w) := x_idx (a := .tup (c.ways.map wayD)) (b := .int r) rfl rfl (ways_ix c h)
  exact q_body (o := .rt (.int (w.1 + w.2.1 - p))) rfl (q_seqR (q_ret rfl (x_bin (a := .int (w.1 + w.2.1)) (b := .int p) (x_bin (a := .int w.1) (b := .int w.2.1) (x_idx (a := wayD w) (b := .int 0) k rfl rfl) (x_idx (a := wayD w) (b := .int 1) k rfl rfl) rfl) rfl rfl)))
/-! ### parts -/
def pStep (most : Int) (found : List (List Int)) (r : Int) : List (List Int) := found ++ (found.filter fun s => decide ((s.length : Int) < most)).map fun s => s ++ [r]
def pAll (roads : List Int) (most : Int) : List (List Int) := roads.foldl (pStep most) [[]]
def pts (roads : List Int) (most : Int) : List (List Int) := isort leLen (pAll roads most)
theorem pStep_len (most : Int) (f : List (List Int)) (r : Int) : (pStep most f r).length ≤ 2 * f.length := by
  unfold pStep
  have := List.length_filter_le (fun s : List Int => decide ((s.length : Int) < most)) f
  simp
  omega
theorem pStep_mem {most : Int} {f : List (List Int)} {r : Int} {s : List Int} (h : s ∈ pStep most f r) : s ∈ f ∨ ∃ t ∈ f, s = t ++ [r] := by
  unfold pStep at h
  rcases List.mem_append.mp h with h | h
  · exact .inl h
  · obtain ⟨t, h1, rfl⟩ := List.mem_map.mp h
    exact .inr ⟨t, (List.mem_filter.mp h1).1, rfl⟩
theorem pw_two (a b : Nat) (h : a * 2 ^ (b + 1) ≤ 100000) : a * 2 * 2 ^ b ≤ 100000 := by
  rw [Nat.pow_succ, Nat.mul_comm (2 ^ b) 2, ← Nat.mul_assoc] at h
  exact h
theorem pw_le (a b : Nat) (h : a * 2 ^ b ≤ 100000) : a ≤ 100000 := by
  have : 1 ≤ 2 ^ b := Nat.one_le_two_pow
  have := Nat.mul_le_mul_left a this
  omega
theorem parts_lc (d0 : D) (most r : Int) (f : List (List Int)) (s2 : SV) (hlen : ∀ s ∈ f, s.length ≤ 1000) : lcGo (.nm 4) (ev G (.tup (.star (.b 4) (.cons (.v 3) .nil)))) (evT G (.tv (.cmp .lt (.blt .len (.cons (.b 4) .nil)) (.b 1)))) [some (.val d0), some (.val (.int most)), some s2, some (.val (.int r)), none] (f.map rowD) =
    .ok (((f.filter fun s => decide ((s.length : Int) < most)).map fun s => s ++ [r]).map rowD) := by
  have key := lcGo_map (t := .nm 4) (e := ev G (.tup (.star (.b 4) (.cons (.v 3) .nil)))) (c := evT G (.tv (.cmp .lt (.blt .len (.cons (.b 4) .nil)) (.b 1)))) (st := [some (.val d0), some (.val (.int most)), some s2, some (.val (.int r)), none])
    rowD (fun s => decide ((s.length : Int) < most)) (fun s => rowD (s ++ [r])) (xs := f) (fun s hs => by
      refine ⟨[some (.val d0), some (.val (.int most)), some s2, some (.val (.int r)), some (.val (rowD s))], rfl, ?_, fun _ => ?_⟩
      · exact t_v (x_cmp (a := .int s.length) (b := .int most) (x_blt (ds := [rowD s]) rfl (by show R.ok (D.int ((s.map D.int).length : Nat)) = _; rw [List.length_map])) rfl rfl)
      · refine (x_tup (ds := s.map .int ++ [.int r]) rfl ?_).trans ?_
        · have := hlen s hs; simp; omega
        · unfold rowD; rw [List.map_append]; rfl)
  rw [key, List.map_map]; rfl
theorem parts_loop (d0 : D) (most : Int) : ∀ (rs : List Int) (f : List (List Int)) (v3 : Option SV), f.length * 2 ^ rs.length ≤ 100000 → (∀ s ∈ f, s.length + rs.length ≤ 1000) →
    ∃ v3', forGo (.nm 3) (evS G (.seq (.ext 2 (.lc (.tup (.star (.b 4) (.cons (.v 3) .nil))) (.nm 4) (.sSeq (.b 2)) (.tv (.cmp .lt (.blt .len (.cons (.b 4) .nil)) (.b 1))))) .nil)) (rs.map .int) [some (.val d0), some (.val (.int most)), some (.own (.lst (f.map rowD))), v3, none] =
      .nx [some (.val d0), some (.val (.int most)), some (.own (.lst ((rs.foldl (pStep most) f).map rowD))), v3', none]
  | [], f, v3, _, _ => ⟨v3, rfl⟩
  | r :: rs, f, v3, h1, h2 => by
    have l1 := pw_le _ _ h1
    have l2 := pStep_len most f r
    obtain ⟨v3', ih⟩ := parts_loop d0 most rs (pStep most f r) (some (.val (.int r))) (Nat.le_trans (Nat.mul_le_mul_right _ (by omega)) (pw_two f.length rs.length h1)) (fun s hs => by
      rcases pStep_mem hs with z | ⟨t, z, rfl⟩
      · have := h2 s z; simp at this; omega
      · have := h2 t z; simp at this ⊢; omega)
    refine ⟨v3', ?_⟩
    rw [List.map_cons, forGo]
    have b : bindT (.nm 3) (.int r) [some (.val d0), some (.val (.int most)), some (.own (.lst (f.map rowD))), v3, none] = some [some (.val d0), some (.val (.int most)), some (.own (.lst (f.map rowD))), some (.val (.int r)), none] := rfl
    simp only [b]
    have e := q_ext (G := G) (st := [some (.val d0), some (.val (.int most)), some (.own (.lst (f.map rowD))), some (.val (.int r)), none]) (i := 2) (ds := f.map rowD) rfl (e := .lc (.tup (.star (.b 4) (.cons (.v 3) .nil))) (.nm 4) (.sSeq (.b 2)) (.tv (.cmp .lt (.blt .len (.cons (.b 4) .nil)) (.b 1)))) rfl
      (x_lc (xs := f.map rowD) rfl (by simp; omega) (parts_lc d0 most r f _ (fun s hs => by have := h2 s hs; simp at this; omega))) (by
        have := List.length_filter_le (fun s : List Int => decide ((s.length : Int) < most)) f
        simp
        omega)
    rw [q_seq e q_nil, List.foldl_cons, ← ih]
    show forGo _ _ _ [some (.val d0), some (.val (.int most)), some (.own (.lst (f.map rowD ++ _))), some (.val (.int r)), none] = _
    rw [← List.map_append]
    rfl
theorem pAll_len (most : Int) : ∀ (rs : List Int) (f : List (List Int)), (rs.foldl (pStep most) f).length ≤ f.length * 2 ^ rs.length
  | [], f => by simp
  | r :: rs, f => by
    rw [List.foldl_cons]
    refine Nat.le_trans (pAll_len most rs _) ?_
    rw [List.length_cons, Nat.pow_succ, Nat.mul_comm (2 ^ rs.length) 2, ← Nat.mul_assoc]
    refine Nat.mul_le_mul_right _ ?_
    have := pStep_len most f r
    omega
theorem slen_ok (f : List (List Int)) (hl : f.length ≤ 100000) : dBlt G .slen [.lst (f.map rowD)] = .ok (.lst ((isort leLen f).map rowD)) := by
  show rb (D.rows (f.map rowD)) (fun rs => chk (decide ((f.map rowD).length ≤ 1000000)) (D.lst ((isort leLen rs).map rowD))) = _
  rw [rows_map]
  show chk (decide ((f.map rowD).length ≤ 1000000)) _ = _
  rw [decide_eq_true (by rw [List.length_map]; omega)]; rfl
theorem pw8 {n : Nat} (h : n ≤ 8) : 2 ^ n ≤ 256 := Nat.pow_le_pow_right (by decide) h
theorem pAll_le {roads : List Int} (most : Int) (h : roads.length ≤ 8) : (pAll roads most).length ≤ 256 := by
  have h1 := pAll_len most roads [[]]
  have := pw8 h
  unfold pAll
  simp at h1
  omega
theorem parts_of_ev (roads : List Int) (most : Int) (h : roads.length ≤ 8) : evB G i_parts_of [false, false] 5 [iL roads, .int most] = .ok (.lst ((pts roads most).map rowD)) := by
  have h0 := pw8 h
  obtain ⟨v3, L⟩ := parts_loop (G := G) (iL roads) most roads [[]] none (by simp; omega) (by intro s hs; simp at hs; subst hs; simp; omega)
  refine q_body (o := .rt (.lst ((pts roads most).map rowD))) rfl (q_seq (st1 := [some (.val (iL roads)), some (.val (.int most)), some (.own (.lst (([[]] : List (List Int)).map rowD))), none, none]) (q_asgO (d := .lst [.tup []]) rfl (x_lst (ds := [.tup []]) rfl (by simp)) rfl)
    (q_seq (q_for (xs := roads.map .int) rfl L) (q_seqR (q_ret rfl (x_blt (ds := [.lst ((pAll roads most).map rowD)]) rfl (slen_ok _ ?_))))))
  have := pAll_le most h
  omega
/-! the law's -/
theorem law_parts_lc (d0 : D) (most r : Int) (f : List (List Int)) (s2 : SV) (hlen : ∀ s ∈ f, s.length ≤ 1000) : lcGo (.nm 4) (ev G (.bin .add (.b 4) (.tup (.cons (.v 3) .nil)))) (evT G (.tv (.cmp .lt (.blt .len (.cons (.b 4) .nil)) (.b 1)))) [some (.val d0), some (.val (.int most)), some s2, some (.val (.int r)), none] (f.map rowD) =
    .ok (((f.filter fun s => decide ((s.length : Int) < most)).map fun s => s ++ [r]).map rowD) := by
  have key := lcGo_map (t := .nm 4) (e := ev G (.bin .add (.b 4) (.tup (.cons (.v 3) .nil)))) (c := evT G (.tv (.cmp .lt (.blt .len (.cons (.b 4) .nil)) (.b 1)))) (st := [some (.val d0), some (.val (.int most)), some s2, some (.val (.int r)), none])
    rowD (fun s => decide ((s.length : Int) < most)) (fun s => rowD (s ++ [r])) (xs := f) (fun s hs => by
      refine ⟨[some (.val d0), some (.val (.int most)), some s2, some (.val (.int r)), some (.val (rowD s))], rfl, ?_, fun _ => ?_⟩
      · exact t_v (x_cmp (a := .int s.length) (b := .int most) (x_blt (ds := [rowD s]) rfl (by show R.ok (D.int ((s.map D.int).length : Nat)) = _; rw [List.length_map])) rfl rfl)
      · refine x_bin (a := rowD s) (b := .tup [.int r]) rfl (x_tup (ds := [.int r]) rfl (by simp)) ?_
        show chk (decide ((s.map D.int).length + [D.int r].length ≤ 1000000)) _ = _
        rw [decide_eq_true (by have := hlen s hs; simp; omega)]
        unfold rowD; rw [List.map_append]; rfl)
  rw [key, List.map_map]; rfl
theorem law_parts_loop (d0 : D) (most : Int) : ∀ (rs : List Int) (f : List (List Int)) (v3 : Option SV), f.length * 2 ^ rs.length ≤ 100000 → (∀ s ∈ f, s.length + rs.length ≤ 1000) →
    ∃ v3', forGo (.nm 3) (evS G (.seq (.asg (.nm 2) (.bin .add (.b 2) (.lc (.bin .add (.b 4) (.tup (.cons (.v 3) .nil))) (.nm 4) (.sSeq (.b 2)) (.tv (.cmp .lt (.blt .len (.cons (.b 4) .nil)) (.b 1)))))) .nil)) (rs.map .int) [some (.val d0), some (.val (.int most)), some (.val (.lst (f.map rowD))), v3, none] =
      .nx [some (.val d0), some (.val (.int most)), some (.val (.lst ((rs.foldl (pStep most) f).map rowD))), v3', none]
  | [], f, v3, _, _ => ⟨v3, rfl⟩
  | r :: rs, f, v3, h1, h2 => by
    have l1 := pw_le _ _ h1
    have l2 := pStep_len most f r
    obtain ⟨v3', ih⟩ := law_parts_loop d0 most rs (pStep most f r) (some (.val (.int r))) (Nat.le_trans (Nat.mul_le_mul_right _ (by omega)) (pw_two f.length rs.length h1)) (fun s hs => by
      rcases pStep_mem hs with z | ⟨t, z, rfl⟩
      · have := h2 s z; simp at this; omega
      · have := h2 t z; simp at this ⊢; omega)
    refine ⟨v3', ?_⟩
    rw [List.map_cons, forGo]
    have b : bindT (.nm 3) (.int r) [some (.val d0), some (.val (.int most)), some (.val (.lst (f.map rowD))), v3, none] = some [some (.val d0), some (.val (.int most)), some (.val (.lst (f.map rowD))), some (.val (.int r)), none] := rfl
    simp only [b]
    have e : evS G (.asg (.nm 2) (.bin .add (.b 2) (.lc (.bin .add (.b 4) (.tup (.cons (.v 3) .nil))) (.nm 4) (.sSeq (.b 2)) (.tv (.cmp .lt (.blt .len (.cons (.b 4) .nil)) (.b 1)))))) [some (.val d0), some (.val (.int most)), some (.val (.lst (f.map rowD))), some (.val (.int r)), none] =
        .nx [some (.val d0), some (.val (.int most)), some (.val (.lst ((pStep most f r).map rowD))), some (.val (.int r)), none] := by
      refine q_asg (d := .lst ((pStep most f r).map rowD)) rfl (x_bin (a := .lst (f.map rowD)) rfl (x_lc (xs := f.map rowD) rfl (by simp; omega) (law_parts_lc d0 most r f _ (fun s hs => by have := h2 s hs; simp at this; omega))) ?_) rfl
      have := List.length_filter_le (fun s : List Int => decide ((s.length : Int) < most)) f
      show chk (decide (_ ≤ 1000000)) _ = _
      rw [decide_eq_true (by simp; omega), ← List.map_append]
      rfl
    rw [q_seq e q_nil, List.foldl_cons, ← ih]
theorem law_parts_ev (roads : List Int) (most : Int) (h : roads.length ≤ 8) : evB G i__law_parts [false, false] 5 [iL roads, .int most] = .ok (.lst ((pts roads most).map rowD)) := by
  have h0 := pw8 h
  obtain ⟨v3, L⟩ := law_parts_loop (G := G) (iL roads) most roads [[]] none (by simp; omega) (by intro s hs; simp at hs; subst hs; simp; omega)
  refine q_body (o := .rt (.lst ((pts roads most).map rowD))) rfl (q_seq (st1 := [some (.val (iL roads)), some (.val (.int most)), some (.val (.lst (([[]] : List (List Int)).map rowD))), none, none]) (q_asg (d := .lst [.tup []]) rfl (x_lst (ds := [.tup []]) rfl (by simp)) rfl)
    (q_seq (q_for (xs := roads.map .int) rfl L) (q_seqR (q_ret rfl (x_blt (ds := [.lst ((pAll roads most).map rowD)]) rfl (slen_ok _ ?_))))))
  have := pAll_le most h
  omega
end
end Z

/-! P2: states at a place. -/
namespace Z
open PySem
abbrev St := Int × List Int × List Int
def stD (s : St) : D := .tup [.int s.1, iT s.2.1, iT s.2.2]
def fresh (c : Ch) (p : Int) (free shut : List Int) : List Int := (rAt p c.ways).filter fun r => !decide (r ∈ free) && !decide (r ∈ shut)
def seen1 (p : Int) (free shut fr some : List Int) : St := (p, isort leI (free ++ fr.filter fun r => !decide (r ∈ some)), isort leI (shut ++ some))
def seen (c : Ch) (p : Int) (free shut : List Int) : List St := (pts (fresh c p free shut) (c.limit - shut.length)).map (seen1 p free shut (fresh c p free shut))
theorem rAt_len (p : Int) (ws : List Way) : (rAt p ws).length ≤ ws.length := by
  unfold rAt
  rw [List.length_map]
  exact Nat.le_trans (List.length_filter_le _ _) (by simp)
theorem fresh_len (c : Ch) (p : Int) (free shut : List Int) : (fresh c p free shut).length ≤ c.ways.length := Nat.le_trans (List.length_filter_le _ _) (rAt_len p c.ways)
theorem pAll_sub (most : Int) : ∀ (rs : List Int) (f : List (List Int)) (pre : List Int), (∀ s ∈ f, s.Sublist pre) → ∀ s ∈ rs.foldl (pStep most) f, s.Sublist (pre ++ rs)
  | [], f, pre, h, s, hs => by simpa using h s hs
  | r :: rs, f, pre, h, s, hs => by
    have := pAll_sub most rs (pStep most f r) (pre ++ [r]) (fun t ht => by
      rcases pStep_mem ht with z | ⟨u, z, rfl⟩
      · exact (h t z).trans (List.sublist_append_left _ _)
      · exact (h u z).append (List.Sublist.refl _)) s hs
    simpa using this
theorem pts_sub {rs : List Int} {most : Int} {s : List Int} (h : s ∈ pts rs most) : s.Sublist rs := by
  have h2 : s ∈ pAll rs most := (isort_perm leLen _).mem_iff.mp h
  have := pAll_sub most rs [[]] [] (by intro t ht; simp at ht; subst ht; exact List.Sublist.refl _) s h2
  simpa using this
theorem pts_len {rs : List Int} (most : Int) (h : rs.length ≤ 8) : (pts rs most).length ≤ 256 := by
  unfold pts
  rw [(isort_perm leLen _).length_eq]
  exact pAll_le most h
section
variable {G : Pg}
theorem sorted_ok (xs : List Int) (h : xs.length < 64) : dBlt G .sorted [.lst (xs.map .int)] = .ok (.lst ((isort leI xs).map .int)) := by
  show rb (D.ints (xs.map .int)) (fun ns => chk (decide (ns.length < 64)) (D.lst ((isort leI ns).map .int))) = _
  rw [ints_map]
  show chk (decide (xs.length < 64)) _ = _
  rw [decide_eq_true h]; rfl
theorem sorted_okT (xs : List Int) (h : xs.length < 64) : dBlt G .sorted [.tup (xs.map .int)] = .ok (.lst ((isort leI xs).map .int)) := by
  show rb (D.ints (xs.map .int)) (fun ns => chk (decide (ns.length < 64)) (D.lst ((isort leI ns).map .int))) = _
  rw [ints_map]
  show chk (decide (xs.length < 64)) _ = _
  rw [decide_eq_true h]; rfl
theorem len_tup (xs : List Int) : dBlt G .len [iT xs] = .ok (.int xs.length) := by
  show R.ok (D.int ((xs.map D.int).length : Nat)) = _
  rw [List.length_map]
theorem len_lst (xs : List Int) : dBlt G .len [iL xs] = .ok (.int xs.length) := by
  show R.ok (D.int ((xs.map D.int).length : Nat)) = _
  rw [List.length_map]
/-- keep what is not in a row -/
theorem keep_lc {cond : Ex} {st : Sl} (p : Int → Bool) (h8 : 8 < st.length) (xs : List Int) (hc : ∀ r ∈ xs, evT G cond (st.set 8 (some (.val (.int r)))) = .ok (p r)) : lcGo (.nm 8) (ev G (.v 8)) (evT G cond) st (xs.map .int) = .ok ((xs.filter p).map .int) :=
  lcGo_map D.int p D.int fun r hr => ⟨st.set 8 (some (.val (.int r))), by rw [bindT, if_pos h8], hc r hr, fun _ => by
    show getV _ 8 = _
    unfold getV
    rw [List.getElem?_set_self h8]⟩
abbrev sbody : Sx := .seq (.asg (.nm 7) (.lc (.v 8) (.nm 8) (.sSeq (.b 4)) (.tv (.cmp .notin (.b 8) (.b 6))))) (.seq (.app 5 (.tup (.cons (.v 1) (.cons (.blt .tuple (.cons (.blt .sorted (.cons (.lst (.star (.b 2) (.star (.b 7) .nil))) .nil)) .nil)) (.cons (.blt .tuple (.cons (.blt .sorted (.cons (.lst (.star (.b 3) (.star (.b 6) .nil))) .nil)) .nil)) .nil))))) .nil)
theorem seen_turn (d0 : D) (p : Int) (free shut fr some1 : List Int) (acc : List St) (v7 : Option SV) (hf : free.length ≤ 8) (hs : shut.length ≤ 8) (hr : fr.length ≤ 8) (h1 : some1.length ≤ 8) (ha : acc.length ≤ 1000) :
    evS G sbody [some (.val d0), some (.val (.int p)), some (.val (iT free)), some (.val (iT shut)), some (.val (iL fr)), some (.own (.lst (acc.map stD))), some (.val (rowD some1)), v7, none] =
      .nx [some (.val d0), some (.val (.int p)), some (.val (iT free)), some (.val (iT shut)), some (.val (iL fr)), some (.own (.lst ((acc ++ [seen1 p free shut fr some1]).map stD))), some (.val (rowD some1)), some (.val (iL (fr.filter fun r => !decide (r ∈ some1)))), none] := by
  have l1 := List.length_filter_le (fun r => !decide (r ∈ some1)) fr
  refine q_seq (q_asg (d := iL (fr.filter fun r => !decide (r ∈ some1))) rfl (x_lc (xs := fr.map .int) rfl (by simp; omega) (keep_lc (fun r => !decide (r ∈ some1)) (by simp) fr fun r _ => t_v (x_cmp (a := .int r) (b := rowD some1) rfl rfl (notin_tup r some1)))) rfl) ?_
  refine (q_seq (q_app (ds := acc.map stD) (d := stD (seen1 p free shut fr some1)) rfl rfl ?_ (by simp; omega)) q_nil).trans ?_
  · refine x_tup (ds := [.int p, iT (isort leI (free ++ fr.filter fun r => !decide (r ∈ some1))), iT (isort leI (shut ++ some1))]) (l_cons rfl (l_cons ?_ (l_one ?_))) (by simp)
    · refine x_blt (ds := [.lst ((isort leI (free ++ fr.filter fun r => !decide (r ∈ some1))).map .int)]) (l_one (x_blt (ds := [.lst ((free ++ fr.filter fun r => !decide (r ∈ some1)).map .int)]) (l_one ?_) (sorted_ok _ (by simp; omega)))) rfl
      refine (x_lst (ds := free.map .int ++ ((fr.filter fun r => !decide (r ∈ some1)).map .int ++ [])) rfl (by simp; omega)).trans ?_
      rw [List.append_nil, List.map_append]
    · refine x_blt (ds := [.lst ((isort leI (shut ++ some1)).map .int)]) (l_one (x_blt (ds := [.lst ((shut ++ some1).map .int)]) (l_one ?_) (sorted_ok _ (by simp; omega)))) rfl
      refine (x_lst (ds := shut.map .int ++ (some1.map .int ++ [])) rfl (by simp; omega)).trans ?_
      rw [List.append_nil, List.map_append]
  · rw [List.map_append]; rfl
theorem seen_loop (d0 : D) (p : Int) (free shut fr : List Int) (hf : free.length ≤ 8) (hs : shut.length ≤ 8) (hr : fr.length ≤ 8) : ∀ (ss : List (List Int)) (acc : List St) (v6 v7 : Option SV), acc.length + ss.length ≤ 1000 → (∀ s ∈ ss, s.length ≤ 8) →
    ∃ v6' v7', forGo (.nm 6) (evS G sbody) (ss.map rowD) [some (.val d0), some (.val (.int p)), some (.val (iT free)), some (.val (iT shut)), some (.val (iL fr)), some (.own (.lst (acc.map stD))), v6, v7, none] =
      .nx [some (.val d0), some (.val (.int p)), some (.val (iT free)), some (.val (iT shut)), some (.val (iL fr)), some (.own (.lst ((acc ++ ss.map (seen1 p free shut fr)).map stD))), v6', v7', none]
  | [], acc, v6, v7, _, _ => ⟨v6, v7, by simp only [List.map_nil, List.append_nil]; rfl⟩
  | s :: ss, acc, v6, v7, h1, h2 => by
    obtain ⟨v6', v7', ih⟩ := seen_loop d0 p free shut fr hf hs hr ss (acc ++ [seen1 p free shut fr s]) (some (.val (rowD s))) (some (.val (iL (fr.filter fun r => !decide (r ∈ s))))) (by simp at h1 ⊢; omega) (fun t ht => h2 t (List.mem_cons_of_mem _ ht))
    refine ⟨v6', v7', ?_⟩
    rw [List.map_cons, forGo]
    have b : bindT (.nm 6) (rowD s) [some (.val d0), some (.val (.int p)), some (.val (iT free)), some (.val (iT shut)), some (.val (iL fr)), some (.own (.lst (acc.map stD))), v6, v7, none] = some [some (.val d0), some (.val (.int p)), some (.val (iT free)), some (.val (iT shut)), some (.val (iL fr)), some (.own (.lst (acc.map stD))), some (.val (rowD s)), v7, none] := rfl
    simp only [b]
    rw [seen_turn d0 p free shut fr s acc v7 hf hs hr (h2 s List.mem_cons_self) (by simp at h1; omega)]
    show forGo _ _ _ _ = _
    rw [ih, List.map_cons, List.append_assoc]; rfl
theorem seen_at_ev (hG : MapG G) (c : Ch) (p : Int) (free shut : List Int) (hw : c.ways.length ≤ 8) (hf : free.length ≤ 8) (hs : shut.length ≤ 8) (h15 : G.F 15 [encC c, .int p] = .ok (iL (rAt p c.ways)))
    (h19 : G.F 19 [iL (fresh c p free shut), .int (c.limit - shut.length)] = .ok (.lst ((pts (fresh c p free shut) (c.limit - shut.length)).map rowD))) :
    evB G i_seen_at [false, false, false, false] 9 [encC c, .int p, iT free, iT shut] = .ok (.lst ((seen c p free shut).map stD)) := by
  have l1 := rAt_len p c.ways
  have l2 := fresh_len c p free shut
  have l3 := pts_len (rs := fresh c p free shut) (c.limit - shut.length) (by omega)
  obtain ⟨v6, v7, L⟩ := seen_loop (G := G) (encC c) p free shut (fresh c p free shut) hf hs (by omega) (pts (fresh c p free shut) (c.limit - shut.length)) [] none none (by simp; omega) (fun s hs' => by have := (pts_sub hs').length_le; omega)
  refine q_body (o := .rt (.lst ((seen c p free shut).map stD))) rfl (q_seq (q_asg (d := iL (fresh c p free shut)) rfl (x_lc (xs := (rAt p c.ways).map .int) (i_seq (d := iL (rAt p c.ways)) (x_call (ds := [encC c, .int p]) rfl h15) rfl) (by simp; omega)
    (keep_lc (fun r => !decide (r ∈ free) && !decide (r ∈ shut)) (by simp [argS]) (rAt p c.ways) fun r _ => t_and (t_v (x_cmp (a := .int r) (b := iT free) rfl rfl (notin_tup r free))) fun _ => t_v (x_cmp (a := .int r) (b := iT shut) rfl rfl (notin_tup r shut)))) rfl)
    (q_seq (q_asgO (d := .lst []) rfl rfl rfl) (q_seq (q_for (i_seq (x_call (ds := [iL (fresh c p free shut), .int (c.limit - shut.length)]) (l_cons rfl (l_one (x_bin (a := .int c.limit) (b := .int shut.length) (x_slot (c := 0) (j := 1) (fs := [.tup [.int c.a, .int c.b], .int c.limit, .int c.many, .tup (c.ways.map wayD)]) rfl hG.limit rfl)
      (x_blt (ds := [iT shut]) rfl (len_tup shut)) rfl))) h19) rfl) L) (q_seqR (q_ret rfl ?_)))))
  rfl
end
end Z

/-! P3: the law's states; open roads; what follows a road. -/
namespace Z
open PySem
section
variable {G : Pg}
theorem keep_lcK (k : Nat) {cond : Ex} {st : Sl} (p : Int → Bool) (hk : k < st.length) (xs : List Int) (hc : ∀ r ∈ xs, evT G cond (st.set k (some (.val (.int r)))) = .ok (p r)) : lcGo (.nm k) (ev G (.v k)) (evT G cond) st (xs.map .int) = .ok ((xs.filter p).map .int) :=
  lcGo_map D.int p D.int fun r hr => ⟨st.set k (some (.val (.int r))), by rw [bindT, if_pos hk], hc r hr, fun _ => by
    show getV _ k = _
    unfold getV
    rw [List.getElem?_set_self hk]⟩
theorem add_tup (xs ys : List Int) (h : xs.length + ys.length ≤ 1000) : dBin .add (iT xs) (iT ys) = .ok (iT (xs ++ ys)) := by
  show chk (decide ((xs.map D.int).length + (ys.map D.int).length ≤ 1000000)) (D.tup (xs.map D.int ++ ys.map D.int)) = _
  rw [decide_eq_true (by simp; omega), ← List.map_append]; rfl
abbrev lbody : Sx := .seq (.asg (.nm 7) (.blt .tuple (.cons (.lc (.v 8) (.nm 8) (.sSeq (.b 4)) (.tv (.cmp .notin (.b 8) (.b 6)))) .nil))) (.seq (.app 5 (.tup (.cons (.v 1) (.cons (.blt .tuple (.cons (.blt .sorted (.cons (.bin .add (.b 2) (.b 7)) .nil)) .nil)) (.cons (.blt .tuple (.cons (.blt .sorted (.cons (.bin .add (.b 3) (.b 6)) .nil)) .nil)) .nil))))) .nil)
theorem law_turn (d0 : D) (p : Int) (free shut fr some1 : List Int) (acc : List St) (v7 : Option SV) (hf : free.length ≤ 8) (hs : shut.length ≤ 8) (hr : fr.length ≤ 8) (h1 : some1.length ≤ 8) (ha : acc.length ≤ 1000) :
    evS G lbody [some (.val d0), some (.val (.int p)), some (.val (iT free)), some (.val (iT shut)), some (.val (iL fr)), some (.own (.lst (acc.map stD))), some (.val (rowD some1)), v7, none] =
      .nx [some (.val d0), some (.val (.int p)), some (.val (iT free)), some (.val (iT shut)), some (.val (iL fr)), some (.own (.lst ((acc ++ [seen1 p free shut fr some1]).map stD))), some (.val (rowD some1)), some (.val (iT (fr.filter fun r => !decide (r ∈ some1)))), none] := by
  have l1 := List.length_filter_le (fun r => !decide (r ∈ some1)) fr
  refine q_seq (q_asg (d := iT (fr.filter fun r => !decide (r ∈ some1))) rfl (x_blt (ds := [iL (fr.filter fun r => !decide (r ∈ some1))]) (l_one (x_lc (xs := fr.map .int) rfl (by simp; omega) (keep_lc (fun r => !decide (r ∈ some1)) (by simp) fr fun r _ => t_v (x_cmp (a := .int r) (b := rowD some1) rfl rfl (notin_tup r some1))))) rfl) rfl) ?_
  refine (q_seq (q_app (ds := acc.map stD) (d := stD (seen1 p free shut fr some1)) rfl rfl ?_ (by simp; omega)) q_nil).trans ?_
  · refine x_tup (ds := [.int p, iT (isort leI (free ++ fr.filter fun r => !decide (r ∈ some1))), iT (isort leI (shut ++ some1))]) (l_cons rfl (l_cons ?_ (l_one ?_))) (by simp)
    · exact x_blt (ds := [.lst ((isort leI (free ++ fr.filter fun r => !decide (r ∈ some1))).map .int)]) (l_one (x_blt (ds := [iT (free ++ fr.filter fun r => !decide (r ∈ some1))]) (l_one (x_bin (a := iT free) (b := iT (fr.filter fun r => !decide (r ∈ some1))) rfl rfl (add_tup _ _ (by omega)))) (sorted_okT _ (by simp; omega)))) rfl
    · exact x_blt (ds := [.lst ((isort leI (shut ++ some1)).map .int)]) (l_one (x_blt (ds := [iT (shut ++ some1)]) (l_one (x_bin (a := iT shut) (b := iT some1) rfl rfl (add_tup _ _ (by omega)))) (sorted_okT _ (by simp; omega)))) rfl
  · rw [List.map_append]; rfl
theorem law_loop (d0 : D) (p : Int) (free shut fr : List Int) (hf : free.length ≤ 8) (hs : shut.length ≤ 8) (hr : fr.length ≤ 8) : ∀ (ss : List (List Int)) (acc : List St) (v6 v7 : Option SV), acc.length + ss.length ≤ 1000 → (∀ s ∈ ss, s.length ≤ 8) →
    ∃ v6' v7', forGo (.nm 6) (evS G lbody) (ss.map rowD) [some (.val d0), some (.val (.int p)), some (.val (iT free)), some (.val (iT shut)), some (.val (iL fr)), some (.own (.lst (acc.map stD))), v6, v7, none] =
      .nx [some (.val d0), some (.val (.int p)), some (.val (iT free)), some (.val (iT shut)), some (.val (iL fr)), some (.own (.lst ((acc ++ ss.map (seen1 p free shut fr)).map stD))), v6', v7', none]
  | [], acc, v6, v7, _, _ => ⟨v6, v7, by simp only [List.map_nil, List.append_nil]; rfl⟩
  | s :: ss, acc, v6, v7, h1, h2 => by
    obtain ⟨v6', v7', ih⟩ := law_loop d0 p free shut fr hf hs hr ss (acc ++ [seen1 p free shut fr s]) (some (.val (rowD s))) (some (.val (iT (fr.filter fun r => !decide (r ∈ s))))) (by simp at h1 ⊢; omega) (fun t ht => h2 t (List.mem_cons_of_mem _ ht))
    refine ⟨v6', v7', ?_⟩
    rw [List.map_cons, forGo]
    have b : bindT (.nm 6) (rowD s) [some (.val d0), some (.val (.int p)), some (.val (iT free)), some (.val (iT shut)), some (.val (iL fr)), some (.own (.lst (acc.map stD))), v6, v7, none] = some [some (.val d0), some (.val (.int p)), some (.val (iT free)), some (.val (iT shut)), some (.val (iL fr)), some (.own (.lst (acc.map stD))), some (.val (rowD s)), v7, none] := rfl
    simp only [b]
    rw [law_turn d0 p free shut fr s acc v7 hf hs hr (h2 s List.mem_cons_self) (by simp at h1; omega)]
    show forGo _ _ _ _ = _
    rw [ih, List.map_cons, List.append_assoc]; rfl
theorem law_seen_ev (c : Ch) (p : Int) (free shut : List Int) (hw : c.ways.length ≤ 8) (hf : free.length ≤ 8) (hs : shut.length ≤ 8) (h15 : G.F 205 [encP c, .int p] = .ok (iL (rAt p c.ways)))
    (h19 : G.F 204 [iL (fresh c p free shut), .int (c.limit - shut.length)] = .ok (.lst ((pts (fresh c p free shut) (c.limit - shut.length)).map rowD))) :
    evB G i__law_seen [false, false, false, false] 9 [encP c, .int p, iT free, iT shut] = .ok (.lst ((seen c p free shut).map stD)) := by
  have l1 := rAt_len p c.ways
  have l2 := fresh_len c p free shut
  have l3 := pts_len (rs := fresh c p free shut) (c.limit - shut.length) (by omega)
  obtain ⟨v6, v7, L⟩ := law_loop (G := G) (encP c) p free shut (fresh c p free shut) hf hs (by omega) (pts (fresh c p free shut) (c.limit - shut.length)) [] none none (by simp; omega) (fun s hs' => by have := (pts_sub hs').length_le; omega)
  refine q_body (o := .rt (.lst ((seen c p free shut).map stD))) rfl (q_seq (q_par (ds := [iL (fresh c p free shut), .lst []]) rfl (l_cons (x_lc (xs := (rAt p c.ways).map .int) (i_seq (d := iL (rAt p c.ways)) (x_call (ds := [encP c, .int p]) rfl h15) rfl) (by simp; omega)
    (keep_lc (fun r => !decide (r ∈ free) && !decide (r ∈ shut)) (by simp [argS]) (rAt p c.ways) fun r _ => t_v (x_cmp (a := .int r) (b := iT (free ++ shut)) rfl (x_bin (a := iT free) (b := iT shut) rfl rfl (add_tup _ _ (by omega))) ((notin_tup r (free ++ shut)).trans ?_)))) rfl) rfl)
    (q_seq (q_for (i_seq (x_call (ds := [iL (fresh c p free shut), .int (c.limit - shut.length)]) (l_cons rfl (l_one (x_bin (a := .int c.limit) (b := .int shut.length) rfl
      (x_blt (ds := [iT shut]) rfl (len_tup shut)) rfl))) h19) rfl) L) (q_seqR (q_ret rfl ?_))))
  · by_cases h1 : r ∈ free <;> by_cases h2 : r ∈ shut <;> simp [h1, h2]
  · rfl
theorem first_of_ev (hG : MapG G) (c : Ch) {d : D} (h : G.F 24 [encC c, .int c.a, iT [], iT []] = .ok d) : evB G i_first_of [false] 1 [encC c] = .ok d :=
  q_body (o := .rt d) rfl (q_seqR (q_ret rfl (x_call (ds := [encC c, .int c.a, iT [], iT []]) (l_cons rfl (l_cons (x_idx (a := .tup [.int c.a, .int c.b]) (b := .int 0) (x_slot (c := 0) (j := 0) (fs := [.tup [.int c.a, .int c.b], .int c.limit, .int c.many, .tup (c.ways.map wayD)]) rfl hG.aims rfl) rfl rfl) rfl)) h)))
theorem law_first_ev (c : Ch) {d : D} (h : G.F 207 [encP c, .int c.a, iT [], iT []] = .ok d) : evB G i__law_first [false] 1 [encP c] = .ok d :=
  q_body (o := .rt d) rfl (q_seqR (q_ret rfl (x_call (ds := [encP c, .int c.a, iT [], iT []]) rfl h)))
def wFrom (c : Ch) (s : St) : List Int := (rAt s.1 c.ways).filter fun r => decide (r ∈ s.2.1)
theorem ways_from_ev (c : Ch) (s : St) (hw : c.ways.length ≤ 8) (h15 : G.F 15 [encC c, .int s.1] = .ok (iL (rAt s.1 c.ways))) : evB G i_ways_from [false, false] 3 [encC c, stD s] = .ok (iL (wFrom c s)) := by
  have l1 := rAt_len s.1 c.ways
  exact q_body (o := .rt (iL (wFrom c s))) rfl (q_seqR (q_ret rfl (x_lc (xs := (rAt s.1 c.ways).map .int) (i_seq (d := iL (rAt s.1 c.ways)) (x_call (ds := [encC c, .int s.1]) rfl h15) rfl) (by simp; omega)
    (keep_lcK 2 (fun r => decide (r ∈ s.2.1)) (by simp [argS, frz]) (rAt s.1 c.ways) fun r _ => t_v (x_cmp (a := .int r) (b := iT s.2.1) rfl rfl (isin_tup r s.2.1))))))
theorem after_ev (c : Ch) (s : St) (r : Int) {e : Int} {d : D} (h16 : G.F 16 [encC c, .int r, .int s.1] = .ok (.int e)) (h : G.F 24 [encC c, .int e, iT s.2.1, iT s.2.2] = .ok d) : evB G i_after [false, false, false] 3 [encC c, stD s, .int r] = .ok d :=
  q_body (o := .rt d) rfl (q_seqR (q_ret rfl (x_call (ds := [encC c, .int e, iT s.2.1, iT s.2.2]) (l_cons rfl (l_cons (x_call (ds := [encC c, .int r, .int s.1]) rfl h16) rfl)) h)))
end
end Z

/-! P4: the checks. -/
namespace Z
open PySem
def risB {α : Type} (lt : α → α → Bool) (xs : List α) : Bool := (xs.zip (xs.drop 1)).all fun q => lt q.1 q.2
theorem risB_of {α : Type} {lt : α → α → Bool} : ∀ {xs : List α}, xs.Pairwise (fun a b => lt a b = true) → risB lt xs = true
  | [], _ => rfl
  | [a], _ => rfl
  | a :: b :: r, h => by
    have h1 := List.pairwise_cons.mp h
    have ih := risB_of h1.2
    unfold risB at ih ⊢
    simp only [List.drop_one, List.tail_cons, List.zip_cons_cons, List.all_cons] at ih ⊢
    rw [h1.1 b List.mem_cons_self]
    cases r with
    | nil => rfl
    | cons c r => simpa using ih
def rowW (w : Way) : List Int := [w.1, w.2.1, w.2.2]
def ltW (u v : Way) : Bool := HT.lexLt (rowW u) (rowW v)
structure OkC (c : Ch) : Prop where
  m1 : 2 ≤ c.many
  m2 : c.many ≤ 6
  l1 : 1 ≤ c.ways.length
  l2 : c.ways.length ≤ 8
  w : ∀ w ∈ c.ways, 0 ≤ w.1 ∧ w.1 < w.2.1 ∧ w.2.1 < c.many ∧ 1 ≤ w.2.2 ∧ w.2.2 ≤ 9
  up : c.ways.Pairwise fun u v => ltW u v = true
  a1 : 0 ≤ c.a
  a2 : c.a < c.many
  b1 : 0 ≤ c.b
  b2 : c.b < c.many
  ab : c.a ≠ c.b
  k1 : 0 ≤ c.limit
  k2 : c.limit ≤ 3
structure OkR (c : Ch) (xs : List Int) : Prop where
  up : xs.Pairwise (· < ·)
  inn : ∀ x ∈ xs, 0 ≤ x ∧ x < c.ways.length
theorem up_len : ∀ {xs : List Int} {lo hi : Int}, xs.Pairwise (· < ·) → (∀ x ∈ xs, lo ≤ x ∧ x < hi) → lo ≤ hi → (xs.length : Int) ≤ hi - lo
  | [], lo, hi, _, _, h => by simp; omega
  | x :: xs, lo, hi, h, hx, _ => by
    have h1 := List.pairwise_cons.mp h
    have h2 := hx x List.mem_cons_self
    have := up_len (lo := x + 1) (hi := hi) h1.2 (fun y hy => ⟨by have := h1.1 y hy; omega, (hx y (List.mem_cons_of_mem _ hy)).2⟩) (by omega)
    simp
    omega
theorem OkR.len {c : Ch} {xs : List Int} (h : OkR c xs) : xs.length ≤ c.ways.length := by
  have := up_len h.up h.inn (by omega)
  omega
structure OkS (c : Ch) (s : St) : Prop where
  p1 : 0 ≤ s.1
  p2 : s.1 < c.many
  free : OkR c s.2.1
  shut : OkR c s.2.2
  few : (s.2.2.length : Int) ≤ c.limit
  dis : ∀ r ∈ s.2.1, r ∉ s.2.2
  kn : ∀ r ∈ rAt s.1 c.ways, r ∈ s.2.1 ∨ r ∈ s.2.2
section
variable {G : Pg}
theorem lenD_nat {n : Nat} (h : n < 1000000) : lenD (.int n) = .ok (.int n) := by
  have h1 : (n : Int) < 1000000 := by omega
  simp [lenD, chk, h1]
theorem x_anT {x y : Ex} {st : Sl} {r : R D} (h : ev G x st = .ok (.bl true)) (h2 : ev G y st = r) : ev G (.an x y) st = r := by
  rw [ev, h]; exact h2
theorem x_orT {x y : Ex} {st : Sl} (h : ev G x st = .ok (.bl true)) : ev G (.orr x y) st = .ok (.bl true) := by
  rw [ev, h]; rfl
theorem x_orF {x y : Ex} {st : Sl} {r : R D} (h : ev G x st = .ok (.bl false)) (h2 : ev G y st = r) : ev G (.orr x y) st = r := by
  rw [ev, h]; exact h2
theorem is_integer_ev (v lo hi : Int) : evB G i_is_integer [false, false, false] 3 [.int v, .int lo, .int hi] = .ok (.bl (decide (lo ≤ v) && decide (v ≤ hi))) := by
  refine q_body (o := .rt (.bl (decide (lo ≤ v) && decide (v ≤ hi)))) rfl (q_seqR (q_ret rfl ?_))
  by_cases h : lo ≤ v
  · simp [ev, evT, frz, frzV, argS, getB, R.bind, chk, cOk, isTy, nx, dCmp, h]
  · simp [ev, evT, frz, frzV, argS, getB, R.bind, chk, cOk, isTy, nx, dCmp, h]
theorem all_ok (bs : List Bool) : dBlt G .all [.lst (bs.map .bl)] = .ok (.bl (bs.all id)) := by
  show rb (D.bls (bs.map .bl)) (fun bs => R.ok (D.bl (bs.all id))) = _
  rw [bls_map]; rfl
theorem any_ok (bs : List Bool) : dBlt G .any [.lst (bs.map .bl)] = .ok (.bl (bs.any id)) := by
  show rb (D.bls (bs.map .bl)) (fun bs => R.ok (D.bl (bs.any id))) = _
  rw [bls_map]; rfl
theorem zipD_map {α : Type} (f : α → D) : ∀ xs ys : List α, zipD (xs.map f) (ys.map f) = (xs.zip ys).map fun q => D.tup [f q.1, f q.2]
  | [], _ => rfl
  | _ :: _, [] => rfl
  | x :: xs, y :: ys => by rw [List.map_cons, List.map_cons, zipD, zipD_map f xs ys, List.zip_cons_cons, List.map_cons]
theorem cut1 (ds : List D) : cutD ds (some 1) none = ds.drop 1 := by
  unfold cutD
  have h : HT.sIx ds.length 0 (some 1) = min 1 ds.length := HT.sIx_nat ds.length 0 1
  rw [h]
  show (ds.drop (min 1 ds.length)).take (ds.length - min 1 ds.length) = _
  cases ds with
  | nil => rfl
  | cons d r =>
    have : min 1 (d :: r).length = 1 := by simp
    rw [this]
    simp
theorem are_rising_ev {α : Type} (f : α → D) (lt : α → α → Bool) (xs : List α) (hl : xs.length ≤ 1000) (h : ∀ a b, dCmp .lt (f a) (f b) = .ok (.bl (lt a b))) : evB G i_are_rising [false] 3 [.tup (xs.map f)] = .ok (.bl (risB lt xs)) := by
  have key := lcGo_map (t := .tp (.cons (.nm 1) (.cons (.nm 2) .nil))) (e := ev G (.cmp .lt (.b 1) (.b 2))) (c := evT G .tyes) (st := [some (.val (.tup (xs.map f))), none, none])
    (fun q : α × α => D.tup [f q.1, f q.2]) (fun _ => true) (fun q => .bl (lt q.1 q.2)) (xs := xs.zip (xs.drop 1)) (fun q _ => ⟨[some (.val (.tup (xs.map f))), some (.val (f q.1)), some (.val (f q.2))], rfl, rfl, fun _ => x_cmp rfl rfl (h q.1 q.2)⟩)
  refine q_body (o := .rt (.bl (risB lt xs))) rfl (q_seqR (q_ret rfl (x_blt (ds := [.lst (((xs.zip (xs.drop 1)).map fun q => lt q.1 q.2).map .bl)]) (l_one (x_lc (xs := (xs.zip (xs.drop 1)).map fun q => D.tup [f q.1, f q.2]) ?_ ?_ ?_)) ((all_ok _).trans ?_))))
  · show R.ok (zipD (xs.map f) (cutD (xs.map f) (some 1) none)) = _
    rw [cut1, ← List.map_drop, zipD_map]
  · rw [List.length_map, List.length_zip]; omega
  · refine key.trans ?_
    rw [List.filter_eq_self.mpr (fun _ _ => rfl), List.map_map]
    rfl
  · unfold risB
    rw [List.all_map]
    rfl
theorem lt_int (a b : Int) : dCmp .lt (.int a) (.int b) = .ok (.bl (decide (a < b))) := rfl
theorem lt_way (u v : Way) : dCmp .lt (wayD u) (wayD v) = .ok (.bl (ltW u v)) := rfl
/-- all([is_integer(one, lo, hi) for one in ..]) -/
theorem ints_lc (k : Nat) {e : Ex} {st : Sl} {lo hi : Int} (hk : k < st.length) (xs : List Int) (hx : ∀ x ∈ xs, lo ≤ x ∧ x ≤ hi) (he : ∀ x ∈ xs, ev G e (st.set k (some (.val (.int x)))) = .ok (.bl (decide (lo ≤ x) && decide (x ≤ hi)))) : lcGo (.nm k) (ev G e) (evT G .tyes) st (xs.map .int) = .ok ((List.replicate xs.length true).map .bl) := by
  have key := lcGo_map (t := .nm k) (e := ev G e) (c := evT G .tyes) (st := st) D.int (fun _ => true) (fun _ => D.bl true) (xs := xs) fun r hr => ⟨st.set k (some (.val (.int r))), by rw [bindT, if_pos hk], rfl, fun _ => by
    rw [he r hr]; have := hx r hr; simp [this.1, this.2]⟩
  rw [key]
  congr 1
  rw [List.filter_eq_self.mpr (fun _ _ => rfl)]
  clear key hx he
  induction xs with
  | nil => rfl
  | cons x xs ih => rw [List.map_cons, List.length_cons, List.replicate_succ, List.map_cons, ih]
theorem all_true (n : Nat) : dBlt G .all [.lst ((List.replicate n true).map .bl)] = .ok (.bl true) := by
  rw [all_ok]
  simp
theorem is_road_ev {w : Way} {m : Int} (hw : 0 ≤ w.1 ∧ w.1 < w.2.1 ∧ w.2.1 < m ∧ 1 ≤ w.2.2 ∧ w.2.2 ≤ 9) (h1 : ∀ v lo hi, G.F 1 [.int v, .int lo, .int hi] = .ok (.bl (decide (lo ≤ v) && decide (v ≤ hi)))) : evB G i_is_road [false, false] 3 [wayD w, .int m] = .ok (.bl true) := by
  obtain ⟨a1, a2, a3, a4, a5⟩ := hw
  have e1 : evT G (.tnt (.tv (.call 1 (.cons (.idx (.b 0) (.k (.int 2))) (.cons (.k (.int 1)) (.cons (.k (.int 9)) .nil)))))) [some (.val (wayD w)), some (.val (.int m)), none] = .ok false := by
    have := t_not (t_v (x_call (G := G) (f := 1) (l := .cons (.idx (.b 0) (.k (.int 2))) (.cons (.k (.int 1)) (.cons (.k (.int 9)) .nil))) (st := [some (.val (wayD w)), some (.val (.int m)), none]) (ds := [.int w.2.2, .int 1, .int 9]) rfl (h1 w.2.2 1 9)))
    rw [this]
    simp [a4, a5]
  have e2 : evT G (.tor (.tnt (.tv (.isi (.b 0) .tuple))) (.tor (.tv (.cmp .ne (.blt .len (.cons (.b 0) .nil)) (.k (.int 3)))) (.tnt (.tv (.call 1 (.cons (.idx (.b 0) (.k (.int 2))) (.cons (.k (.int 1)) (.cons (.k (.int 9)) .nil)))))))) [some (.val (wayD w)), some (.val (.int m)), none] = .ok false :=
    t_or (a := false) (b := false) rfl fun _ => t_or (a := false) (b := false) rfl fun _ => e1
  refine q_body (o := .rt (.bl true)) rfl (q_seq (q_iffF e2 q_nil) (q_seqR (q_ret rfl ?_)))
  have e3 : ev G (.blt .all (.cons (.lc (.call 1 (.cons (.v 2) (.cons (.k (.int 0)) (.cons (.bin .sub (.b 1) (.k (.int 1))) .nil)))) (.nm 2) (.sSeq (.sl (.b 0) .nil (.k (.int 2)))) .tyes) .nil)) [some (.val (wayD w)), some (.val (.int m)), none] = .ok (.bl true) :=
    x_blt (l_one (x_lc (xs := [w.1, w.2.1].map .int) rfl (by simp) (ints_lc 2 (lo := 0) (hi := m - 1) (by simp) [w.1, w.2.1] (by intro x hx; simp at hx; rcases hx with rfl | rfl <;> omega) fun x hx => x_call (ds := [.int x, .int 0, .int (m - 1)]) rfl (h1 x 0 (m - 1))))) (all_true _)
  refine x_anT e3 ?_
  refine x_cmp (a := .int w.1) (b := .int w.2.1) rfl rfl ?_
  rw [lt_int, decide_eq_true a2]
theorem check_map_ev (c : Ch) (hn : 0 < G.nc) : evB G i_check_map [false] 1 [encC c] = .ok .non := by
  refine q_body (o := .nx _) rfl (q_seq (q_iffF ?_ q_nil) q_nil)
  refine t_not (a := true) (t_v ?_)
  show chk (decide (0 < G.nc)) _ = _
  rw [decide_eq_true hn]; rfl
theorem len_ins {c f : Nat} {fs : List D} {d : D} (hn : G.ln c = some f) (h : G.F f [.ins c fs] = .ok d) : dBlt G .len [.ins c fs] = lenD d := by
  simp only [dBlt, hn, rb, h, R.bind]
theorem len_map (c : Ch) (hl : c.ways.length ≤ 8) (hn : G.ln 0 = some 0) (h0 : G.F 0 [encC c] = .ok (.int c.ways.length)) : dBlt G .len [encC c] = .ok (.int c.ways.length) :=
  (len_ins hn h0).trans (lenD_nat (by omega))
theorem map_len_ev (hG : MapG G) (c : Ch) : evB G i_Map__len_ [false] 1 [encC c] = .ok (.int c.ways.length) := by
  refine q_body (o := .rt (.int c.ways.length)) rfl (q_seqR (q_ret rfl (x_blt (ds := [.tup (c.ways.map wayD)]) (l_one (x_slot (c := 0) (j := 3) (fs := [.tup [.int c.a, .int c.b], .int c.limit, .int c.many, .tup (c.ways.map wayD)]) rfl hG.ways rfl)) ?_)))
  show R.ok (D.int ((c.ways.map wayD).length : Nat)) = _
  rw [List.length_map]
theorem are_roads_ev (c : Ch) {xs : List Int} (hx : OkR c xs) (hl : c.ways.length ≤ 8) (hn : G.ln 0 = some 0) (h0 : G.F 0 [encC c] = .ok (.int c.ways.length)) (h1 : ∀ v lo hi, G.F 1 [.int v, .int lo, .int hi] = .ok (.bl (decide (lo ≤ v) && decide (v ≤ hi))))
    (h2 : G.F 2 [iT xs] = .ok (.bl (risB (fun a b => decide (a < b)) xs))) : evB G i_are_roads [false, false] 3 [encC c, iT xs] = .ok (.bl true) := by
  have ln := hx.len
  have e1 : ev G (.blt .all (.cons (.lc (.call 1 (.cons (.v 2) (.cons (.k (.int 0)) (.cons (.bin .sub (.blt .len (.cons (.b 0) .nil)) (.k (.int 1))) .nil)))) (.nm 2) (.sSeq (.b 1)) .tyes) .nil)) [some (.val (encC c)), some (.val (iT xs)), none] = .ok (.bl true) :=
    x_blt (l_one (x_lc (xs := xs.map .int) rfl (by simp; omega) (ints_lc 2 (lo := 0) (hi := c.ways.length - 1) (by simp) xs (fun x hx' => by have := hx.inn x hx'; omega) fun x _ => x_call (ds := [.int x, .int 0, .int (c.ways.length - 1)]) (l_cons rfl (l_cons rfl (l_one (x_bin (a := .int c.ways.length) (b := .int 1) (x_blt (ds := [encC c]) rfl (len_map c hl hn h0)) rfl rfl)))) (h1 x 0 _)))) (all_true _)
  refine q_body (o := .rt (.bl true)) rfl (q_seq (q_iffF (t_or (a := false) (b := false) rfl fun _ => t_not (a := true) (t_v e1)) q_nil) (q_seqR (q_ret rfl (x_call (ds := [iT xs]) rfl (h2.trans ?_)))))
  rw [risB_of (hx.up.imp fun h => decide_eq_true h)]
theorem is_world_ev (hG : MapG G) (c : Ch) {xs : List Int} (hx : (xs.length : Int) ≤ c.limit) (h12 : G.F 12 [encC c, iT xs] = .ok (.bl true)) : evB G i_is_world [false, false] 2 [encC c, iT xs] = .ok (.bl true) := by
  refine q_body (o := .rt (.bl true)) rfl (q_seqR (q_ret rfl ?_))
  refine x_anT (x_call (ds := [encC c, iT xs]) rfl h12) ?_
  refine x_cmp (a := .int xs.length) (b := .int c.limit) (x_blt (ds := [iT xs]) rfl (len_tup xs)) (x_slot (c := 0) (j := 1) (fs := [.tup [.int c.a, .int c.b], .int c.limit, .int c.many, .tup (c.ways.map wayD)]) rfl hG.limit rfl) ?_
  show R.ok (D.bl (decide ((xs.length : Int) ≤ c.limit))) = _
  rw [decide_eq_true hx]
theorem q_drop {G : Pg} {e : Ex} {st : Sl} {d : D} (h : ev G e st = .ok d) : evS G (.drop e) st = .nx st := by
  rw [evS, h]; rfl
theorem check_world_ev (c : Ch) {xs : List Int} (h11 : G.F 11 [encC c] = .ok .non) (h13 : G.F 13 [encC c, iT xs] = .ok (.bl true)) : evB G i_check_world [false, false] 2 [encC c, iT xs] = .ok .non :=
  q_body (o := .nx _) rfl (q_seq (q_drop (x_call (ds := [encC c]) rfl h11)) (q_seq (q_iffF (t_not (a := true) (t_v (x_call (ds := [encC c, iT xs]) rfl h13))) q_nil) q_nil))
theorem check_state_ev (c : Ch) {s : St} (h11 : G.F 11 [encC c] = .ok .non) (h22 : G.F 22 [encC c, stD s] = .ok (.bl true)) : evB G i_check_state [false, false] 2 [encC c, stD s] = .ok .non :=
  q_body (o := .nx _) rfl (q_seq (q_drop (x_call (ds := [encC c]) rfl h11)) (q_seq (q_iffF (t_not (a := true) (t_v (x_call (ds := [encC c, stD s]) rfl h22))) q_nil) q_nil))
end
end Z

/-! P5: states, a new map, and the calls that check first. -/
namespace Z
open PySem
theorem map_rep {α β : Type} (b : β) : ∀ xs : List α, (xs.map fun _ => b) = List.replicate xs.length b
  | [] => rfl
  | x :: xs => by rw [List.map_cons, map_rep b xs, List.length_cons, List.replicate_succ]
section
variable {G : Pg}
theorem bools_lc (k : Nat) {e : Ex} {st : Sl} (f : Int → Bool) (hk : k < st.length) (xs : List Int) (he : ∀ x ∈ xs, ev G e (st.set k (some (.val (.int x)))) = .ok (.bl (f x))) : lcGo (.nm k) (ev G e) (evT G .tyes) st (xs.map .int) = .ok ((xs.map f).map .bl) := by
  have key := lcGo_map (t := .nm k) (e := ev G e) (c := evT G .tyes) (st := st) D.int (fun _ => true) (fun x => D.bl (f x)) (xs := xs) fun r hr => ⟨st.set k (some (.val (.int r))), by rw [bindT, if_pos hk], rfl, fun _ => he r hr⟩
  rw [key, List.filter_eq_self.mpr (fun _ _ => rfl), List.map_map]
  rfl
theorem is_state_ev (hG : MapG G) (c : Ch) {s : St} (hs : OkS c s) (hl : c.ways.length ≤ 8) (h1 : ∀ v lo hi, G.F 1 [.int v, .int lo, .int hi] = .ok (.bl (decide (lo ≤ v) && decide (v ≤ hi)))) (h12 : G.F 12 [encC c, iT s.2.1] = .ok (.bl true)) (h12' : G.F 12 [encC c, iT s.2.2] = .ok (.bl true))
    (h15 : G.F 15 [encC c, .int s.1] = .ok (iL (rAt s.1 c.ways))) : evB G i_is_state [false, false] 6 [encC c, stD s] = .ok (.bl true) := by
  have lf := hs.free.len
  have lr := rAt_len s.1 c.ways
  have e1 : evT G (.tnt (.tv (.call 1 (.cons (.idx (.b 1) (.k (.int 0))) (.cons (.k (.int 0)) (.cons (.bin .sub (.att (.b 0) 0) (.k (.int 1))) .nil)))))) [some (.val (encC c)), some (.val (stD s)), none, none, none, none] = .ok false := by
    refine (t_not (t_v (x_call (ds := [.int s.1, .int 0, .int (c.many - 1)]) (l_cons rfl (l_cons rfl (l_one (x_bin (a := .int c.many) (b := .int 1) (x_slot (c := 0) (j := 2) (fs := [.tup [.int c.a, .int c.b], .int c.limit, .int c.many, .tup (c.ways.map wayD)]) rfl hG.many rfl) rfl rfl)))) (h1 s.1 0 (c.many - 1))))).trans ?_
    have h3 := hs.p1
    have h4 := hs.p2
    rw [decide_eq_true h3, decide_eq_true (show s.1 ≤ c.many - 1 by omega)]; rfl
  have e2 : evT G (.tor (.tnt (.tv (.isi (.b 1) .tuple))) (.tor (.tv (.cmp .ne (.blt .len (.cons (.b 1) .nil)) (.k (.int 3)))) (.tnt (.tv (.call 1 (.cons (.idx (.b 1) (.k (.int 0))) (.cons (.k (.int 0)) (.cons (.bin .sub (.att (.b 0) 0) (.k (.int 1))) .nil)))))))) [some (.val (encC c)), some (.val (stD s)), none, none, none, none] = .ok false :=
    t_or (a := false) (b := false) rfl fun _ => t_or (a := false) (b := false) rfl fun _ => e1
  have e3 : evT G (.tor (.tnt (.tv (.call 12 (.cons (.v 0) (.cons (.v 3) .nil))))) (.tor (.tnt (.tv (.call 12 (.cons (.v 0) (.cons (.v 4) .nil))))) (.tv (.cmp .gt (.blt .len (.cons (.b 4) .nil)) (.att (.b 0) 3))))) [some (.val (encC c)), some (.val (stD s)), some (.val (.int s.1)), some (.val (iT s.2.1)), some (.val (iT s.2.2)), none] = .ok false := by
    refine t_or (a := false) (b := false) (t_not (a := true) (t_v (x_call (ds := [encC c, iT s.2.1]) rfl h12))) fun _ => t_or (a := false) (b := false) (t_not (a := true) (t_v (x_call (ds := [encC c, iT s.2.2]) rfl h12'))) fun _ => t_v (x_cmp (a := .int s.2.2.length) (b := .int c.limit) (x_blt (ds := [iT s.2.2]) rfl (len_tup _)) (x_slot (c := 0) (j := 1) (fs := [.tup [.int c.a, .int c.b], .int c.limit, .int c.many, .tup (c.ways.map wayD)]) rfl hG.limit rfl) ?_)
    show R.ok (D.bl (decide (c.limit < (s.2.2.length : Int)))) = _
    rw [decide_eq_false (by have := hs.few; omega)]
  have e4 : evT G (.tv (.blt .any (.cons (.lc (.cmp .isin (.b 5) (.b 4)) (.nm 5) (.sSeq (.b 3)) .tyes) .nil))) [some (.val (encC c)), some (.val (stD s)), some (.val (.int s.1)), some (.val (iT s.2.1)), some (.val (iT s.2.2)), none] = .ok false := by
    refine t_v (x_blt (l_one (x_lc (xs := s.2.1.map .int) rfl (by simp; omega) (bools_lc 5 (fun r => decide (r ∈ s.2.2)) (by simp) s.2.1 fun r _ => x_cmp (a := .int r) (b := iT s.2.2) rfl rfl (isin_tup r s.2.2)))) ((any_ok _).trans ?_))
    have : (s.2.1.map fun r => decide (r ∈ s.2.2)).any id = false := by
      rw [List.any_map, List.any_eq_false]
      intro r hr
      have := hs.dis r hr
      simpa using this
    rw [this]
  refine q_body (o := .rt (.bl true)) rfl (q_seq (q_iffF e2 q_nil) (q_seq (q_asg (d := stD s) rfl rfl rfl) (q_seq (q_iffF e3 q_nil) (q_seq (q_iffF e4 q_nil) (q_seqR (q_ret rfl (x_blt (l_one (x_lc (xs := (rAt s.1 c.ways).map .int) (i_seq (d := iL (rAt s.1 c.ways)) (x_call (ds := [encC c, .int s.1]) rfl h15) rfl) (by simp; omega)
    (bools_lc 5 (fun r => decide (r ∈ s.2.1 ∨ r ∈ s.2.2)) (by simp [frz, argS]) (rAt s.1 c.ways) fun r _ => ?_))) ((all_ok _).trans ?_))))))))
  · by_cases h : r ∈ s.2.1
    · refine (x_orT (x_cmp (a := .int r) (b := iT s.2.1) rfl rfl ((isin_tup r s.2.1).trans (by rw [decide_eq_true h])))).trans ?_
      rw [decide_eq_true (Or.inl h)]
    · refine (x_orF (x_cmp (a := .int r) (b := iT s.2.1) (d := .bl false) rfl rfl ((isin_tup r s.2.1).trans (by rw [decide_eq_false h]))) (x_cmp (a := .int r) (b := iT s.2.2) rfl rfl (isin_tup r s.2.2))).trans ?_
      simp [h]
  · have : ((rAt s.1 c.ways).map fun r => decide (r ∈ s.2.1 ∨ r ∈ s.2.2)).all id = true := by
      rw [List.all_map, List.all_eq_true]
      intro r hr
      simpa using hs.kn r hr
    rw [this]
/-! ### a new map -/
theorem m_body {ir : Sx} {bs : List Bool} {n c m : Nat} {ds : List D} {o : Out} (hl : bs.length = ds.length) (h : evS G ir (some (.slf c (List.replicate m none)) :: argS bs ds n) = o) : evM G ir bs n c m ds = insO c o := by
  unfold evM
  rw [if_pos hl, h]
theorem q_fld {i n c j : Nat} {fs : List (Option D)} {e : Ex} {st : Sl} {d : D} (hi : st[i]? = some (some (.slf c fs))) (hb : isB e = false) (h : ev G e st = .ok d) (hs : G.sl c n = some j) (hj : j < fs.length) : evS G (.fld i n e) st = .nx (st.set i (some (.slf c (fs.set j (some d))))) := by
  rw [evS]
  simp only [hi, hb, h]
  simp [R.out, hs, hj]
theorem map_new_ev (hG : MapG G) (c : Ch) (hc : OkC c) (h1 : ∀ v lo hi, G.F 1 [.int v, .int lo, .int hi] = .ok (.bl (decide (lo ≤ v) && decide (v ≤ hi)))) (h2 : G.F 2 [.tup (c.ways.map wayD)] = .ok (.bl (risB ltW c.ways))) (h3 : ∀ w ∈ c.ways, G.F 3 [wayD w, .int c.many] = .ok (.bl true)) :
    evM G i_Map [false, false, false, false] 6 0 4 [.int c.many, .tup (c.ways.map wayD), .tup [.int c.a, .int c.b], .int c.limit] = .ok (encC c) := by
  have st0 : (some (SV.slf 0 (List.replicate 4 none)) :: argS [false, false, false, false] [.int c.many, .tup (c.ways.map wayD), .tup [.int c.a, .int c.b], .int c.limit] 6) = [some (.slf 0 [none, none, none, none]), some (.val (.int c.many)), some (.val (.tup (c.ways.map wayD))), some (.val (.tup [.int c.a, .int c.b])), some (.val (.int c.limit)), none, none] := rfl
  have int_t : ∀ {l : Ex} {v lo hi : Int}, evL G l [some (.slf 0 [none, none, none, none]), some (.val (.int c.many)), some (.val (.tup (c.ways.map wayD))), some (.val (.tup [.int c.a, .int c.b])), some (.val (.int c.limit)), none, none] = .ok [.int v, .int lo, .int hi] → lo ≤ v → v ≤ hi → evT G (.tnt (.tv (.call 1 l))) [some (.slf 0 [none, none, none, none]), some (.val (.int c.many)), some (.val (.tup (c.ways.map wayD))), some (.val (.tup [.int c.a, .int c.b])), some (.val (.int c.limit)), none, none] = .ok false := fun {l v lo hi} e a b => by
    refine (t_not (t_v (x_call e (h1 v lo hi)))).trans ?_
    rw [decide_eq_true a, decide_eq_true b]; rfl
  have e1 := int_t (l := .cons (.v 1) (.cons (.k (.int 2)) (.cons (.k (.int 6)) .nil))) (v := c.many) (lo := 2) (hi := 6) rfl hc.m1 hc.m2
  have e6 := int_t (l := .cons (.v 4) (.cons (.k (.int 0)) (.cons (.k (.int 3)) .nil))) (v := c.limit) (lo := 0) (hi := 3) rfl hc.k1 hc.k2
  have e2 : evT G (.tor (.tnt (.tv (.isi (.b 2) .tuple))) (.tnt (.tv (.chn .le .le (.k (.int 1)) (.blt .len (.cons (.b 2) .nil)) (.k (.int 8)))))) [some (.slf 0 [none, none, none, none]), some (.val (.int c.many)), some (.val (.tup (c.ways.map wayD))), some (.val (.tup [.int c.a, .int c.b])), some (.val (.int c.limit)), none, none] = .ok false := by
    refine t_or (a := false) (b := false) rfl fun _ => t_not (a := true) (t_v ?_)
    have b1 : ev G (.blt .len (.cons (.b 2) .nil)) [some (.slf 0 [none, none, none, none]), some (.val (.int c.many)), some (.val (.tup (c.ways.map wayD))), some (.val (.tup [.int c.a, .int c.b])), some (.val (.int c.limit)), none, none] = .ok (.int c.ways.length) := x_blt (ds := [.tup (c.ways.map wayD)]) rfl (by show R.ok (D.int ((c.ways.map wayD).length : Nat)) = _; rw [List.length_map])
    have l1 := hc.l1
    have l2 := hc.l2
    have g1 : (1 : Int) ≤ c.ways.length := by omega
    have g2 : (c.ways.length : Int) ≤ 8 := by omega
    rw [ev, b1]
    simp [ev, R.bind, nx, dCmp, g1, g2]
  have e3 : evT G (.tor (.tnt (.tv (.blt .all (.cons (.lc (.call 3 (.cons (.v 5) (.cons (.v 1) .nil))) (.nm 5) (.sSeq (.b 2)) .tyes) .nil)))) (.tnt (.tv (.call 2 (.cons (.v 2) .nil))))) [some (.slf 0 [none, none, none, none]), some (.val (.int c.many)), some (.val (.tup (c.ways.map wayD))), some (.val (.tup [.int c.a, .int c.b])), some (.val (.int c.limit)), none, none] = .ok false := by
    have key := lcGo_map (t := .nm 5) (e := ev G (.call 3 (.cons (.v 5) (.cons (.v 1) .nil)))) (c := evT G .tyes) (st := [some (.slf 0 [none, none, none, none]), some (.val (.int c.many)), some (.val (.tup (c.ways.map wayD))), some (.val (.tup [.int c.a, .int c.b])), some (.val (.int c.limit)), none, none]) wayD (fun _ => true) (fun _ => D.bl true) (xs := c.ways) fun w hw => ⟨_, rfl, rfl, fun _ => x_call (ds := [wayD w, .int c.many]) rfl (h3 w hw)⟩
    have r : ((c.ways.filter fun _ => true).map fun _ => D.bl true) = (List.replicate c.ways.length true).map .bl := by
      rw [List.filter_eq_self.mpr (fun _ _ => rfl), map_rep, List.map_replicate]
    rw [r] at key
    have l2 := hc.l2
    refine t_or (a := false) (b := false) (t_not (a := true) (t_v (x_blt (l_one (x_lc (xs := c.ways.map wayD) rfl (by simp; omega) key)) (all_true _)))) fun _ => t_not (a := true) (t_v (x_call (ds := [.tup (c.ways.map wayD)]) rfl (h2.trans ?_)))
    rw [risB_of hc.up]
  have e4 : evT G (.tor (.tnt (.tv (.isi (.b 3) .tuple))) (.tor (.tv (.cmp .ne (.blt .len (.cons (.b 3) .nil)) (.k (.int 2)))) (.tnt (.tv (.blt .all (.cons (.lc (.call 1 (.cons (.v 6) (.cons (.k (.int 0)) (.cons (.bin .sub (.b 1) (.k (.int 1))) .nil)))) (.nm 6) (.sSeq (.b 3)) .tyes) .nil)))))) [some (.slf 0 [none, none, none, none]), some (.val (.int c.many)), some (.val (.tup (c.ways.map wayD))), some (.val (.tup [.int c.a, .int c.b])), some (.val (.int c.limit)), none, none] = .ok false := by
    refine t_or (a := false) (b := false) rfl fun _ => t_or (a := false) (b := false) rfl fun _ => t_not (a := true) (t_v (x_blt (l_one (x_lc (xs := [c.a, c.b].map .int) rfl (by simp) (ints_lc 6 (lo := 0) (hi := c.many - 1) (by simp) [c.a, c.b] (fun x hx => ?_) fun x _ => x_call (ds := [.int x, .int 0, .int (c.many - 1)]) rfl (h1 x 0 (c.many - 1))))) (all_true _)))
    have := hc.a1; have := hc.a2; have := hc.b1; have := hc.b2
    simp at hx
    rcases hx with rfl | rfl <;> omega
  have e5 : evT G (.tv (.cmp .eq (.idx (.b 3) (.k (.int 0))) (.idx (.b 3) (.k (.int 1))))) [some (.slf 0 [none, none, none, none]), some (.val (.int c.many)), some (.val (.tup (c.ways.map wayD))), some (.val (.tup [.int c.a, .int c.b])), some (.val (.int c.limit)), none, none] = .ok false := by
    refine t_v (x_cmp (a := .int c.a) (b := .int c.b) rfl rfl ?_)
    rw [eqC_int]
    have := hc.ab
    simp [this]
  refine (m_body rfl ?_).trans (b := insO 0 (.nx [some (.slf 0 [some (.tup [.int c.a, .int c.b]), some (.int c.limit), some (.int c.many), some (.tup (c.ways.map wayD))]), some (.val (.int c.many)), some (.val (.tup (c.ways.map wayD))), some (.val (.tup [.int c.a, .int c.b])), some (.val (.int c.limit)), none, none])) rfl
  rw [st0]
  exact q_seq (q_iffF e1 q_nil) (q_seq (q_iffF e2 q_nil) (q_seq (q_iffF e3 q_nil) (q_seq (q_iffF e4 q_nil) (q_seq (q_iffF e5 q_nil) (q_seq (q_iffF e6 q_nil) (q_seq (q_fld (c := 0) (j := 2) rfl rfl (d := .int c.many) rfl hG.many (by simp)) (q_seq (q_fld (c := 0) (j := 3) rfl rfl (d := .tup (c.ways.map wayD)) rfl hG.ways (by simp))
    (q_seq (q_fld (c := 0) (j := 0) rfl rfl (d := .tup [.int c.a, .int c.b]) rfl hG.aims (by simp)) (q_seq (q_fld (c := 0) (j := 1) rfl rfl (d := .int c.limit) rfl hG.limit (by simp)) q_nil)))))))))
/-! ### calls that check first -/
theorem worlds_ev (hG : MapG G) (c : Ch) {d : D} (hl : c.ways.length ≤ 8) (hn : G.ln 0 = some 0) (h0 : G.F 0 [encC c] = .ok (.int c.ways.length)) (h11 : G.F 11 [encC c] = .ok .non) (h19 : G.F 19 [.lst (rngD 0 c.ways.length), .int c.limit] = .ok d) : evB G i_worlds [false] 1 [encC c] = .ok d := by
  refine q_body (o := .rt d) rfl (q_seq (q_drop (x_call (ds := [encC c]) rfl h11)) (q_seqR (q_ret rfl (x_call (ds := [.lst (rngD 0 c.ways.length), .int c.limit]) (l_cons ?_ (l_one (x_slot (c := 0) (j := 1) (fs := [.tup [.int c.a, .int c.b], .int c.limit, .int c.many, .tup (c.ways.map wayD)]) rfl hG.limit rfl))) h19))))
  have b1 : ev G (.blt .len (.cons (.b 0) .nil)) (frz (argS [false] [encC c] 1)) = .ok (.int c.ways.length) := x_blt (ds := [encC c]) rfl (len_map c hl hn h0)
  have g : (c.ways.length : Int) ≤ 1000000 := by omega
  rw [ev, b1]
  simp [ev, R.bind, chk, g]
theorem first_states_ev (c : Ch) {d : D} (h11 : G.F 11 [encC c] = .ok .non) (h25 : G.F 25 [encC c] = .ok d) : evB G i_first_states [false] 1 [encC c] = .ok d :=
  q_body (o := .rt d) rfl (q_seq (q_drop (x_call (ds := [encC c]) rfl h11)) (q_seqR (q_ret rfl (x_call (ds := [encC c]) rfl h25))))
theorem ways_ev (c : Ch) (s : St) {d : D} (h23 : G.F 23 [encC c, stD s] = .ok .non) (h27 : G.F 27 [encC c, stD s] = .ok d) : evB G i_ways [false, false] 2 [encC c, stD s] = .ok d :=
  q_body (o := .rt d) rfl (q_seq (q_drop (x_call (ds := [encC c, stD s]) rfl h23)) (q_seqR (q_ret rfl (x_call (ds := [encC c, stD s]) rfl h27))))
theorem results_ev (c : Ch) (s : St) {r : Int} {d : D} (hl : c.ways.length ≤ 8) (hr : r ∈ wFrom c s) (hb : 0 ≤ r ∧ r < c.ways.length) (hn : G.ln 0 = some 0) (h0 : G.F 0 [encC c] = .ok (.int c.ways.length)) (h1 : ∀ v lo hi, G.F 1 [.int v, .int lo, .int hi] = .ok (.bl (decide (lo ≤ v) && decide (v ≤ hi))))
    (h23 : G.F 23 [encC c, stD s] = .ok .non) (h27 : G.F 27 [encC c, stD s] = .ok (iL (wFrom c s))) (h28 : G.F 28 [encC c, stD s, .int r] = .ok d) : evB G i_results [false, false, false] 3 [encC c, stD s, .int r] = .ok d := by
  refine q_body (o := .rt d) rfl (q_seq (q_drop (x_call (ds := [encC c, stD s]) rfl h23)) (q_seq (q_iffF (t_or (a := false) (b := false) ?_ fun _ => t_v (x_cmp (a := .int r) (b := iL (wFrom c s)) rfl (x_call (ds := [encC c, stD s]) rfl h27) ((notin_lst r _).trans ?_))) q_nil) (q_seqR (q_ret rfl (x_call (ds := [encC c, stD s, .int r]) rfl h28)))))
  · refine (t_not (t_v (x_call (ds := [.int r, .int 0, .int (c.ways.length - 1)]) (l_cons rfl (l_cons rfl (l_one (x_bin (a := .int c.ways.length) (b := .int 1) (x_blt (ds := [encC c]) rfl (len_map c hl hn h0)) rfl rfl)))) (h1 r 0 _)))).trans ?_
    rw [decide_eq_true hb.1, decide_eq_true (show r ≤ (c.ways.length : Int) - 1 by omega)]; rfl
  · rw [decide_eq_true hr]; rfl
theorem open_length_ev (hG : MapG G) (c : Ch) (xs : List Int) {d : D} (h14 : G.F 14 [encC c, iT xs] = .ok .non) (h18 : G.F 18 [encC c, iT xs, .int c.a] = .ok d) : evB G i_open_length [false, false] 2 [encC c, iT xs] = .ok d :=
  q_body (o := .rt d) rfl (q_seq (q_drop (x_call (ds := [encC c, iT xs]) rfl h14)) (q_seqR (q_ret rfl (x_call (ds := [encC c, iT xs, .int c.a]) (l_cons rfl (l_cons rfl (l_one (x_idx (a := .tup [.int c.a, .int c.b]) (b := .int 0) (x_slot (c := 0) (j := 0) (fs := [.tup [.int c.a, .int c.b], .int c.limit, .int c.many, .tup (c.ways.map wayD)]) rfl hG.aims rfl) rfl rfl)))) h18))))
theorem prop_ev (c : Ch) {n j : Nat} {d : D} (hs : G.sl 0 n = some j) (hj : [D.tup [.int c.a, .int c.b], .int c.limit, .int c.many, .tup (c.ways.map wayD)][j]? = some d) : evB G (.seq (.ret (.att (.b 0) n)) .nil) [false] 1 [encC c] = .ok d :=
  q_body (o := .rt d) rfl (q_seqR (q_ret rfl (x_slot (c := 0) (j := j) (fs := [.tup [.int c.a, .int c.b], .int c.limit, .int c.many, .tup (c.ways.map wayD)]) rfl hs hj)))
end
end Z

/-! P6: least lengths: the mathematics of the queue. -/
namespace Z
open PySem
/-- walks without the roads of shut -/
inductive Wk (c : Ch) (shut : List Int) (s : Int) : Int → Int → Prop
  | nil : Wk c shut s s 0
  | step {p L r : Int} {w : Way} : Wk c shut s p L → L2.atI c.ways r = some w → 0 ≤ r → tch p w = true → r ∉ shut → Wk c shut s (oEnd w p) (L + w.2.2)
def IsMin (c : Ch) (shut : List Int) (s t : Int) : Option Int → Prop
  | none => ∀ L, ¬ Wk c shut s t L
  | some v => Wk c shut s t v ∧ ∀ L, Wk c shut s t L → v ≤ L
theorem IsMin.one {c : Ch} {shut : List Int} {s t : Int} {o o' : Option Int} (h : IsMin c shut s t o) (h' : IsMin c shut s t o') : o = o' := by
  cases o with
  | none =>
    cases o' with
    | none => rfl
    | some v => exact absurd h'.1 (h v)
  | some v =>
    cases o' with
    | none => exact absurd h.1 (h' v)
    | some u =>
      have h1 := h.2 u h'.1
      have h2 := h'.2 v h.1
      have : v = u := by omega
      rw [this]
abbrev Tb2 := List (Int × Int)
def putA : Tb2 → Int → Int → Tb2
  | [], k, v => [(k, v)]
  | (a, b) :: r, k, v => if a = k then (a, v) :: r else (a, b) :: putA r k v
theorem look_put (k v x : Int) : ∀ m : Tb2, (putA m k v).lookup x = if x = k then some v else m.lookup x
  | [] => by
    unfold putA
    by_cases h : x = k
    · subst h; simp [List.lookup]
    · have : (x == k) = false := by simpa using h
      simp [List.lookup, this, h]
  | (a, b) :: r => by
    unfold putA
    by_cases h : a = k
    · rw [if_pos h]
      by_cases hx : x = k
      · subst hx; subst h; simp [List.lookup]
      · have : (x == a) = false := by rw [h]; simpa using hx
        rw [List.lookup_cons, List.lookup_cons, this, if_neg hx]
    · rw [if_neg h, List.lookup_cons, List.lookup_cons]
      cases e : (x == a) with
      | true =>
        have : x = a := by simpa using e
        rw [if_neg (by rw [this]; exact h)]
      | false => exact look_put k v x r
theorem keys_put (k v : Int) : ∀ m : Tb2, ((m.lookup k).isSome = true → (putA m k v).map (·.1) = m.map (·.1)) ∧ ((m.lookup k) = none → (putA m k v).map (·.1) = m.map (·.1) ++ [k])
  | [] => ⟨fun h => (by cases h), fun _ => rfl⟩
  | (a, b) :: r => by
    have ih := keys_put k v r
    unfold putA
    by_cases h : a = k
    · subst h
      refine ⟨fun _ => by rw [if_pos rfl]; rfl, fun e => ?_⟩
      simp [List.lookup] at e
    · have e : (k == a) = false := by simpa using fun z => h z.symm
      rw [if_neg h, List.lookup_cons, e]
      exact ⟨fun z => by rw [List.map_cons, List.map_cons, ih.1 z], fun z => by rw [List.map_cons, List.map_cons, ih.2 z]; rfl⟩
theorem look_mem {m : Tb2} {p v : Int} (h : m.lookup p = some v) : (p, v) ∈ m := memL h
theorem mem_look : ∀ {m : Tb2} {p v : Int}, (m.map (·.1)).Nodup → (p, v) ∈ m → m.lookup p = some v
  | (a, b) :: r, p, v, nd, h => by
    have nd' := List.nodup_cons.mp (show (a :: r.map (·.1)).Nodup from nd)
    rw [List.lookup_cons]
    rcases List.mem_cons.mp h with z | z
    · cases z; simp
    · have : (p == a) = false := by
        rw [beq_eq_false_iff_ne]
        intro q
        exact nd'.1 (q ▸ List.mem_map.mpr ⟨_, z, rfl⟩)
      rw [this]
      exact mem_look nd'.2 z
def better (o : Option Int) (L : Int) : Bool := match o with
  | none => true
  | some v => decide (L < v)
def rlx (c : Ch) (shut : List Int) (h : Int) (s : Tb2 × List Int) (r : Int) : Tb2 × List Int := match L2.atI c.ways r, s.1.lookup h with
  | some w, some dh => if r ∉ shut ∧ better (s.1.lookup (oEnd w h)) (dh + w.2.2) = true then (putA s.1 (oEnd w h) (dh + w.2.2), s.2 ++ [oEnd w h]) else s
  | _, _ => s
theorem rAt_mem {p : Int} {ws : List Way} {r : Int} : r ∈ rAt p ws ↔ ∃ w, 0 ≤ r ∧ L2.atI ws r = some w ∧ tch p w = true := by
  unfold rAt
  constructor
  · intro h
    obtain ⟨q, h1, rfl⟩ := List.mem_map.mp h
    obtain ⟨h2, h3⟩ := List.mem_filter.mp h1
    have h4 := List.mem_zipIdx_iff_getElem?.mp h2
    refine ⟨q.1, by omega, ?_, h3⟩
    have hlt := (List.getElem?_eq_some_iff.mp h4).1
    unfold L2.atI L2.ixN
    rw [if_pos (by omega), if_pos (by omega)]
    simpa using h4
  · rintro ⟨w, h0, h1, h2⟩
    have hb : r < ws.length ∧ ws[r.toNat]? = some w := by
      unfold L2.atI L2.ixN at h1
      rw [if_pos h0] at h1
      by_cases hr : r < ws.length
      · rw [if_pos hr] at h1; exact ⟨hr, h1⟩
      · rw [if_neg hr] at h1; cases h1
    refine List.mem_map.mpr ⟨(w, r.toNat), List.mem_filter.mpr ⟨List.mem_zipIdx_iff_getElem?.mpr (by simpa using hb.2), h2⟩, ?_⟩
    show ((r.toNat : Nat) : Int) = r
    omega
theorem atI_bd {ws : List Way} {r : Int} {w : Way} (h0 : 0 ≤ r) (h1 : L2.atI ws r = some w) : r < ws.length ∧ w ∈ ws := by
  unfold L2.atI L2.ixN at h1
  rw [if_pos h0] at h1
  by_cases hr : r < ws.length
  · rw [if_pos hr] at h1; exact ⟨hr, List.mem_of_getElem? h1⟩
  · rw [if_neg hr] at h1; cases h1
/-- all open roads at p are used -/
def Rlxd (c : Ch) (shut : List Int) (m : Tb2) (p v : Int) : Prop := ∀ r w, 0 ≤ r → L2.atI c.ways r = some w → tch p w = true → r ∉ shut → ∃ u, m.lookup (oEnd w p) = some u ∧ u ≤ v + w.2.2
structure DB (c : Ch) (shut : List Int) (s0 : Int) (m : Tb2) (q : List Int) : Prop where
  nd : (m.map (·.1)).Nodup
  kin : ∀ p v, m.lookup p = some v → 0 ≤ p ∧ p < c.many
  bd : ∀ p v, m.lookup p = some v → 0 ≤ v ∧ v ≤ 9 * ((m.length : Int) - 1)
  st : m.lookup s0 = some 0
  wk : ∀ p v, m.lookup p = some v → Wk c shut s0 p v
  qin : ∀ p ∈ q, (m.lookup p).isSome = true
def DI (c : Ch) (shut : List Int) (s0 : Int) (s : Tb2 × List Int) : Prop := DB c shut s0 s.1 s.2 ∧ ∀ p v, s.1.lookup p = some v → p ∉ s.2 → Rlxd c shut s.1 p v
/-- while the roads at h are gone through -/
def DH (c : Ch) (shut : List Int) (s0 h dh : Int) (ds : List Int) (s : Tb2 × List Int) : Prop := DB c shut s0 s.1 s.2 ∧ s.1.lookup h = some dh ∧ (∀ p v, s.1.lookup p = some v → p ∉ s.2 → p ≠ h → Rlxd c shut s.1 p v) ∧
  ∀ r ∈ ds, ∀ w, L2.atI c.ways r = some w → r ∉ shut → ∃ u, s.1.lookup (oEnd w h) = some u ∧ u ≤ dh + w.2.2
def lab (m : Tb2) (p : Int) : Nat := match m.lookup p with
  | some v => v.toNat
  | none => 100
def phi (c : Ch) (s : Tb2 × List Int) : Nat := 2 * ((List.range c.many.toNat).map fun (i : Nat) => lab s.1 (i : Int)).sum + s.2.length
theorem nodup_len {xs : List Int} {hi : Int} (nd : xs.Nodup) (h : ∀ x ∈ xs, 0 ≤ x ∧ x < hi) (h0 : 0 ≤ hi) : (xs.length : Int) ≤ hi := by
  have hp := isort_perm leI xs
  have hs := isort_sorted leI_tr leI_tot xs
  have nd2 : (isort leI xs).Nodup := hp.nodup_iff.mpr nd
  have up : (isort leI xs).Pairwise (· < ·) := by
    have := hs.and nd2
    refine this.imp fun {a b} z => ?_
    obtain ⟨z1, z2⟩ := z
    have z1 : a ≤ b := of_decide_eq_true z1
    have z2 : a ≠ b := z2
    omega
  have := up_len up (lo := 0) (hi := hi) (fun x hx => h x (hp.mem_iff.mp hx)) h0
  rw [hp.length_eq] at this
  omega
theorem DB.len {c : Ch} {shut : List Int} {s0 : Int} {m : Tb2} {q : List Int} (h : DB c shut s0 m q) (hm : 0 ≤ c.many) : (m.length : Int) ≤ c.many := by
  have := nodup_len (hi := c.many) h.nd (fun x hx => by
    obtain ⟨y, hy, rfl⟩ := List.mem_map.mp hx
    exact h.kin y.1 y.2 (mem_look h.nd hy)) hm
  simpa using this
theorem sum_le {f g : Nat → Nat} : ∀ {l : List Nat}, (∀ i ∈ l, f i ≤ g i) → (l.map f).sum ≤ (l.map g).sum
  | [], _ => Nat.le_refl _
  | a :: l, h => by
    have h1 := h a List.mem_cons_self
    have h2 := sum_le (l := l) fun i hi => h i (List.mem_cons_of_mem _ hi)
    simp only [List.map_cons, List.sum_cons]
    omega
theorem sum_lt {f g : Nat → Nat} {k : Nat} : ∀ {l : List Nat}, (∀ i ∈ l, f i ≤ g i) → k ∈ l → f k < g k → (l.map f).sum < (l.map g).sum
  | a :: l, h, hk, hlt => by
    have h1 := h a List.mem_cons_self
    simp only [List.map_cons, List.sum_cons]
    rcases List.mem_cons.mp hk with z | z
    · subst z
      have h2 := sum_le (l := l) fun i hi => h i (List.mem_cons_of_mem _ hi)
      omega
    · have h2 := sum_lt (l := l) (fun i hi => h i (List.mem_cons_of_mem _ hi)) z hlt
      omega
theorem tch_cases {p : Int} {w : Way} (h : tch p w = true) : p = w.1 ∨ p = w.2.1 := of_decide_eq_true h
theorem oEnd_ne {p : Int} {w : Way} (h : tch p w = true) (hw : w.1 < w.2.1) : oEnd w p ≠ p := by
  unfold oEnd
  rcases tch_cases h with z | z <;> split <;> omega
theorem put_len {m : Tb2} {k v : Int} : ((m.lookup k).isSome = true → (putA m k v).length = m.length) ∧ (m.lookup k = none → (putA m k v).length = m.length + 1) := by
  have h := keys_put k v m
  refine ⟨fun z => ?_, fun z => ?_⟩
  · have := congrArg List.length (h.1 z); simpa using this
  · have := congrArg List.length (h.2 z); simpa using this
/-- one road -/
theorem rlx_ok {c : Ch} {shut : List Int} {s0 h dh : Int} {ds : List Int} {s : Tb2 × List Int} (hc : OkC c) (H : DH c shut s0 h dh ds s) {r : Int} (hr : r ∈ rAt h c.ways) : DH c shut s0 h dh (ds ++ [r]) (rlx c shut h s r) ∧ phi c (rlx c shut h s r) ≤ phi c s := by
  obtain ⟨m, q⟩ := s
  obtain ⟨w, r0, hw, tw⟩ := rAt_mem.mp hr
  obtain ⟨B, hh, rel, dn⟩ := H
  have B : DB c shut s0 m q := B
  have hh : m.lookup h = some dh := hh
  have rel : ∀ p v, m.lookup p = some v → p ∉ q → p ≠ h → Rlxd c shut m p v := rel
  have dn : ∀ r ∈ ds, ∀ w, L2.atI c.ways r = some w → r ∉ shut → ∃ u, m.lookup (oEnd w h) = some u ∧ u ≤ dh + w.2.2 := dn
  obtain ⟨w1, w2, w3, w4, w5⟩ := hc.w w (atI_bd r0 hw).2
  have ne := oEnd_ne tw w2
  have hm : 0 ≤ c.many := by have := hc.m1; omega
  have tin : 0 ≤ oEnd w h ∧ oEnd w h < c.many := by unfold oEnd; split <;> omega
  have bh := B.bd h dh hh
  have hrl : rlx c shut h (m, q) r = if r ∉ shut ∧ better (m.lookup (oEnd w h)) (dh + w.2.2) = true then (putA m (oEnd w h) (dh + w.2.2), q ++ [oEnd w h]) else (m, q) := by
    unfold rlx
    simp only [hw, show m.lookup h = some dh from hh]
  rw [hrl]
  by_cases cond : r ∉ shut ∧ better (m.lookup (oEnd w h)) (dh + w.2.2) = true
  · rw [if_pos cond]
    obtain ⟨c1, c2⟩ := cond
    have lp : ∀ x, (putA m (oEnd w h) (dh + w.2.2)).lookup x = if x = oEnd w h then some (dh + w.2.2) else m.lookup x := fun x => look_put _ _ x m
    have nst : s0 ≠ oEnd w h := fun z => by
      have z1 := B.st
      rw [z] at z1
      rw [show m.lookup (oEnd w h) = some 0 from z1] at c2
      have : dh + w.2.2 < 0 := of_decide_eq_true c2
      omega
    have lenle : (m.length : Int) ≤ (putA m (oEnd w h) (dh + w.2.2)).length := by
      cases e : m.lookup (oEnd w h) with
      | none => rw [put_len.2 e]; omega
      | some v => rw [put_len.1 (by rw [e]; rfl)]; omega
    have newb : dh + w.2.2 ≤ 9 * (((putA m (oEnd w h) (dh + w.2.2)).length : Int) - 1) := by
      cases e : m.lookup (oEnd w h) with
      | none => rw [put_len.2 e]; push_cast; omega
      | some v =>
        rw [put_len.1 (by rw [e]; rfl)]
        have := B.bd _ _ e
        rw [e] at c2
        have : dh + w.2.2 < v := of_decide_eq_true c2
        omega
    have up : ∀ x u, m.lookup x = some u → ∃ u', (putA m (oEnd w h) (dh + w.2.2)).lookup x = some u' ∧ u' ≤ u := fun x u e => by
      rw [lp]
      by_cases z : x = oEnd w h
      · rw [if_pos z]
        subst z
        rw [e] at c2
        have : dh + w.2.2 < u := of_decide_eq_true c2
        exact ⟨_, rfl, by omega⟩
      · rw [if_neg z]; exact ⟨u, e, Int.le_refl _⟩
    refine ⟨⟨⟨?_, fun p v e => ?_, fun p v e => ?_, ?_, fun p v e => ?_, fun p hp => ?_⟩, ?_, fun p v e hp hne r' w' a1 a2 a3 a4 => ?_, fun r' hr' w' a2 a4 => ?_⟩, ?_⟩
    · show ((putA m (oEnd w h) (dh + w.2.2)).map (·.1)).Nodup
      cases e : m.lookup (oEnd w h) with
      | none =>
        rw [(keys_put _ _ m).2 e]
        refine List.nodup_append.mpr ⟨B.nd, by simp, fun x hx y hy => ?_⟩
        simp at hy
        subst hy
        intro z
        subst z
        obtain ⟨y, hy, e2⟩ := List.mem_map.mp hx
        have := mem_look B.nd (show (y.1, y.2) ∈ m from hy)
        rw [e2, e] at this
        cases this
      | some v => rw [(keys_put _ _ m).1 (by rw [e]; rfl)]; exact B.nd
    · rw [show (putA m (oEnd w h) (dh + w.2.2)).lookup p = _ from lp p] at e
      by_cases z : p = oEnd w h
      · rw [z]; exact tin
      · rw [if_neg z] at e; exact B.kin p v e
    · rw [show (putA m (oEnd w h) (dh + w.2.2)).lookup p = _ from lp p] at e
      by_cases z : p = oEnd w h
      · rw [if_pos z] at e
        cases e
        exact ⟨by omega, newb⟩
      · rw [if_neg z] at e
        have := B.bd p v e
        exact ⟨this.1, by show v ≤ 9 * (((putA m (oEnd w h) (dh + w.2.2)).length : Int) - 1); omega⟩
    · show (putA m (oEnd w h) (dh + w.2.2)).lookup s0 = some 0
      rw [lp, if_neg nst]; exact B.st
    · rw [show (putA m (oEnd w h) (dh + w.2.2)).lookup p = _ from lp p] at e
      by_cases z : p = oEnd w h
      · rw [if_pos z] at e
        cases e
        rw [z]
        exact .step (B.wk h dh hh) hw r0 tw c1
      · rw [if_neg z] at e; exact B.wk p v e
    · show ((putA m (oEnd w h) (dh + w.2.2)).lookup p).isSome = true
      rw [lp]
      by_cases z : p = oEnd w h
      · rw [if_pos z]; rfl
      · rw [if_neg z]
        rcases List.mem_append.mp (show p ∈ q ++ [oEnd w h] from hp) with y | y
        · exact B.qin p y
        · simp at y; exact absurd y z
    · show (putA m (oEnd w h) (dh + w.2.2)).lookup h = some dh
      rw [lp, if_neg (Ne.symm ne)]; exact hh
    · have hp' : p ∉ q ∧ p ≠ oEnd w h := by
        have : p ∉ q ++ [oEnd w h] := hp
        simp at this
        exact this
      rw [show (putA m (oEnd w h) (dh + w.2.2)).lookup p = _ from lp p, if_neg hp'.2] at e
      obtain ⟨u, e1, e2⟩ := rel p v e hp'.1 hne r' w' a1 a2 a3 a4
      obtain ⟨u', e3, e4⟩ := up _ u e1
      exact ⟨u', e3, by omega⟩
    · rcases List.mem_append.mp hr' with y | y
      · obtain ⟨u, e1, e2⟩ := dn r' y w' a2 a4
        obtain ⟨u', e3, e4⟩ := up _ u e1
        exact ⟨u', e3, by omega⟩
      · simp at y
        subst y
        rw [hw] at a2
        cases a2
        refine ⟨dh + w.2.2, ?_, Int.le_refl _⟩
        show (putA m (oEnd w h) (dh + w.2.2)).lookup (oEnd w h) = _
        rw [lp, if_pos rfl]
    · unfold phi
      have key : ((List.range c.many.toNat).map fun (i : Nat) => lab (putA m (oEnd w h) (dh + w.2.2)) (i : Int)).sum < ((List.range c.many.toNat).map fun (i : Nat) => lab m (i : Int)).sum := by
        refine sum_lt (k := (oEnd w h).toNat) (fun i hi => ?_) (List.mem_range.mpr (by omega)) ?_
        · unfold lab
          rw [lp]
          by_cases z : (i : Int) = oEnd w h
          · rw [if_pos z, z]
            cases e : m.lookup (oEnd w h) with
            | none =>
              show (dh + w.2.2).toNat ≤ 100
              have := B.len hm
              have := hc.m2
              omega
            | some v =>
              rw [e] at c2
              have : dh + w.2.2 < v := of_decide_eq_true c2
              show (dh + w.2.2).toNat ≤ v.toNat
              omega
          · rw [if_neg z]; exact Nat.le_refl _
        · have z : (((oEnd w h).toNat : Nat) : Int) = oEnd w h := by omega
          unfold lab
          rw [z, lp, if_pos rfl]
          cases e : m.lookup (oEnd w h) with
          | none =>
            show (dh + w.2.2).toNat < 100
            have := B.len hm
            have := hc.m2
            omega
          | some v =>
            rw [e] at c2
            have : dh + w.2.2 < v := of_decide_eq_true c2
            show (dh + w.2.2).toNat < v.toNat
            omega
      show 2 * _ + (q ++ [oEnd w h]).length ≤ 2 * _ + q.length
      rw [List.length_append]
      simp only [List.length_cons, List.length_nil]
      omega
  · rw [if_neg cond]
    refine ⟨⟨B, hh, rel, fun r' hr' w' a2 a4 => ?_⟩, Nat.le_refl _⟩
    rcases List.mem_append.mp hr' with y | y
    · exact dn r' y w' a2 a4
    · simp at y
      subst y
      rw [hw] at a2
      cases a2
      have nb : ¬ better (m.lookup (oEnd w h)) (dh + w.2.2) = true := fun z => cond ⟨a4, z⟩
      cases e : m.lookup (oEnd w h) with
      | none => rw [e] at nb; exact absurd rfl nb
      | some v =>
        rw [e] at nb
        refine ⟨v, rfl, ?_⟩
        have : ¬ dh + w.2.2 < v := fun z => nb (decide_eq_true z)
        omega
theorem rlx_all {c : Ch} {shut : List Int} {s0 h dh : Int} (hc : OkC c) : ∀ (rs ds : List Int) (s : Tb2 × List Int), (∀ r ∈ rs, r ∈ rAt h c.ways) → DH c shut s0 h dh ds s → DH c shut s0 h dh (ds ++ rs) (rs.foldl (rlx c shut h) s) ∧ phi c (rs.foldl (rlx c shut h) s) ≤ phi c s
  | [], ds, s, _, H => by rw [List.append_nil]; exact ⟨H, Nat.le_refl _⟩
  | r :: rs, ds, s, hr, H => by
    obtain ⟨h1, h2⟩ := rlx_ok hc H (hr r List.mem_cons_self)
    obtain ⟨h3, h4⟩ := rlx_all hc rs (ds ++ [r]) _ (fun x hx => hr x (List.mem_cons_of_mem _ hx)) h1
    rw [List.append_assoc] at h3
    exact ⟨h3, Nat.le_trans h4 h2⟩
/-- one place of the queue -/
def pop1 (c : Ch) (shut : List Int) (m : Tb2) (h : Int) (q : List Int) : Tb2 × List Int := (rAt h c.ways).foldl (rlx c shut h) (m, q)
theorem pop1_ok {c : Ch} {shut : List Int} {s0 h : Int} {m : Tb2} {q : List Int} (hc : OkC c) (H : DI c shut s0 (m, h :: q)) : DI c shut s0 (pop1 c shut m h q) ∧ phi c (pop1 c shut m h q) < phi c (m, h :: q) := by
  obtain ⟨B, rel⟩ := H
  obtain ⟨dh, hh⟩ := Option.isSome_iff_exists.mp (B.qin h List.mem_cons_self)
  have H0 : DH c shut s0 h dh [] (m, q) := ⟨⟨B.nd, B.kin, B.bd, B.st, B.wk, fun p hp => B.qin p (List.mem_cons_of_mem _ hp)⟩, hh, fun p v e hp hne => rel p v e (fun z => by
    rcases List.mem_cons.mp z with y | y
    · exact hne y
    · exact hp y), fun r hr => nomatch hr⟩
  obtain ⟨h1, h2⟩ := rlx_all hc (rAt h c.ways) [] (m, q) (fun _ z => z) H0
  refine ⟨⟨h1.1, fun p v e hp => ?_⟩, ?_⟩
  · by_cases z : p = h
    · subst z
      have e2 := h1.2.1
      rw [show (pop1 c shut m p q).1.lookup p = some dh from e2] at e
      cases e
      intro r w a1 a2 a3 a4
      exact h1.2.2.2 r (by rw [List.nil_append]; exact rAt_mem.mpr ⟨w, a1, a2, a3⟩) w a2 a4
    · exact h1.2.2.1 p v e hp z
  · refine Nat.lt_of_le_of_lt h2 ?_
    unfold phi
    simp only [List.length_cons]
    omega
theorem DI.start {c : Ch} {shut : List Int} {s0 : Int} (h0 : 0 ≤ s0) (h1 : s0 < c.many) : DI c shut s0 ([(s0, 0)], [s0]) := by
  have lk : ∀ {p v : Int}, ([(s0, (0 : Int))] : Tb2).lookup p = some v → p = s0 ∧ v = 0 := fun {p v} e => by
    by_cases z : p = s0
    · subst z; simp [List.lookup] at e; exact ⟨rfl, e.symm⟩
    · have : (p == s0) = false := by simpa using z
      rw [List.lookup_cons, this] at e
      cases e
  refine ⟨⟨by simp, fun p v e => ?_, fun p v e => ?_, by simp [List.lookup], fun p v e => ?_, fun p hp => ?_⟩, fun p v e hp => ?_⟩
  · obtain ⟨rfl, _⟩ := lk e; exact ⟨h0, h1⟩
  · obtain ⟨_, rfl⟩ := lk e; simp
  · obtain ⟨rfl, rfl⟩ := lk e; exact .nil
  · simp at hp; subst hp; simp [List.lookup]
  · obtain ⟨rfl, _⟩ := lk e; simp at hp
/-- the end of the queue -/
theorem DI.done {c : Ch} {shut : List Int} {s0 : Int} {m : Tb2} (H : DI c shut s0 (m, [])) (t : Int) : IsMin c shut s0 t (m.lookup t) := by
  have key : ∀ {p L : Int}, Wk c shut s0 p L → ∃ v, m.lookup p = some v ∧ v ≤ L := fun {p L} wk => by
    induction wk with
    | nil => exact ⟨0, H.1.st, Int.le_refl _⟩
    | step _ a1 a2 a3 a4 ih =>
      obtain ⟨v, e1, e2⟩ := ih
      obtain ⟨u, e3, e4⟩ := H.2 _ v e1 (by simp) _ _ a2 a1 a3 a4
      exact ⟨u, e3, by omega⟩
  cases e : m.lookup t with
  | none => exact fun L wk => by obtain ⟨v, e1, _⟩ := key wk; rw [e] at e1; cases e1
  | some v => exact ⟨H.1.wk t v e, fun L wk => by obtain ⟨u, e1, e2⟩ := key wk; rw [e] at e1; cases e1; exact e2⟩
end Z

/-! P7: distance. -/
namespace Z
open PySem
def tbD (m : Tb2) : D := .dic (m.map fun q => .int q.1) (m.map fun q => .int q.2)
def optD : Option Int → D
  | none => .non
  | some v => .int v
theorem dGet_tb (k : Int) : ∀ m : Tb2, dGet (.int k) (m.map fun q => D.int q.1) (m.map fun q => D.int q.2) = (m.lookup k).map .int
  | [] => rfl
  | (a, b) :: r => by
    rw [List.map_cons, List.map_cons, dGet, dGet_tb k r, List.lookup_cons]
    show (if decide (a = k) = true then _ else _) = _
    by_cases h : a = k
    · subst h; simp
    · have : (k == a) = false := by simpa using fun z => h z.symm
      simp [h, this]
theorem dPut_tb (k v : Int) : ∀ m : Tb2, dPut (.int k) (.int v) (m.map fun q => D.int q.1) (m.map fun q => D.int q.2) = ((putA m k v).map (fun q => D.int q.1), (putA m k v).map fun q => D.int q.2)
  | [] => rfl
  | (a, b) :: r => by
    rw [List.map_cons, List.map_cons, dPut, dPut_tb k v r, putA]
    show (if decide (a = k) = true then _ else _) = _
    by_cases h : a = k
    · subst h; simp
    · simp [h]
theorem idx_tb {m : Tb2} {k v : Int} (h : m.lookup k = some v) : dIdx (tbD m) (.int k) = .ok (.int v) := by
  show (chk true ()).bind (fun _ => rb (dGet (.int k) (m.map fun q => D.int q.1) (m.map fun q => D.int q.2)) R.ok) = _
  rw [dGet_tb, h]; rfl
theorem notin_tb (m : Tb2) (k : Int) : dCmp .notin (.int k) (tbD m) = .ok (.bl (m.lookup k).isNone) := by
  show chk true (D.bl !(dGet (.int k) (m.map fun q => D.int q.1) (m.map fun q => D.int q.2)).isSome) = _
  rw [dGet_tb]
  cases m.lookup k <;> rfl
theorem ne_nil (q : List Int) : dCmp .ne (iL q) (.lst []) = .ok (.bl !q.isEmpty) := by
  have e : (iL q).py = some (.list (q.map .int)) := by
    show (D.lst (q.map .int)).py = _
    rw [D.py, pys_ints]; rfl
  have s : SeqAt.shaped (.list (q.map PyData.int)) = true := by
    unfold SeqAt.shaped
    rw [PyData.canLay0, PyData.depth, (layInts q).1, (layInts q).2]
    rfl
  have d : dEq (iL q) (.lst []) = .ok q.isEmpty := by
    unfold dEq
    simp only [e]
    show chk (SeqAt.shaped (.list (q.map PyData.int)) && SeqAt.shaped (.list [])) _ = _
    rw [s]
    cases q <;> rfl
  show (dEq (iL q) (.lst [])).bind (fun b => R.ok (D.bl !b)) = _
  rw [d]; rfl
/-- a row of roads, as a tuple or a list -/
def RowOf (d : D) (xs : List Int) : Prop := d = iT xs ∨ d = iL xs
theorem RowOf.notin {d : D} {xs : List Int} (h : RowOf d xs) (x : Int) : dCmp .notin (.int x) d = .ok (.bl !decide (x ∈ xs)) := by
  rcases h with rfl | rfl
  · exact notin_tup x xs
  · exact notin_lst x xs
section
variable {G : Pg}
theorem q_setD {i : Nat} {k e : Ex} {st : Sl} {m : Tb2} {a v : Int} (hi : st[i]? = some (some (.own (tbD m)))) (hb : isB e = false) (he : ev G e st = .ok (.int v)) (hk : ev G k st = .ok (.int a)) (hl : m.length < 1000000) : evS G (.set i k e) st = .nx (st.set i (some (.own (tbD (putA m a v))))) := by
  rw [evS]
  simp only [hi, tbD, hb, he, hk]
  have h2 : decide ((m.map fun q => D.int q.1).length < 1000000) = true := decide_eq_true (by simpa using hl)
  simp only [R.out, isKey, h2, dPut_tb]
  rfl
abbrev dbody2 : Sx := .seq (.par [(7, false), (8, false)] (.cons (.call 16 (.cons (.v 0) (.cons (.v 6) (.cons (.v 5) .nil)))) (.cons (.bin .add (.idx (.b 3) (.b 5)) (.call 17 (.cons (.v 0) (.cons (.v 6) .nil)))) .nil))) (.seq (.iff (.tan (.tv (.cmp .notin (.b 6) (.b 1))) (.tor (.tv (.cmp .notin (.b 7) (.b 3))) (.tv (.cmp .lt (.b 8) (.idx (.b 3) (.b 7)))))) (.seq (.set 3 (.b 7) (.v 8)) (.seq (.app 4 (.v 7)) .nil)) .nil) .nil)
abbrev dbody : Sx := .seq (.pop (.nm 5) 4 (.cons (.k (.int 0)) .nil)) (.seq (.forr (.nm 6) (.sSeq (.call 15 (.cons (.v 0) (.cons (.v 5) .nil)))) dbody2) .nil)
def dqS (c : Ch) (sd : D) (s0 : Int) (m : Tb2) (q : List Int) (v5 v6 v7 v8 : Option SV) : Sl := [some (.val (encC c)), some (.val sd), some (.val (.int s0)), some (.own (tbD m)), some (.own (iL q)), v5, v6, v7, v8]
structure DisG (G : Pg) (c : Ch) : Prop where
  at_ : ∀ p, G.F 15 [encC c, .int p] = .ok (iL (rAt p c.ways))
  oe : ∀ r p w, L2.atI c.ways r = some w → G.F 16 [encC c, .int r, .int p] = .ok (.int (oEnd w p))
  len : ∀ r w, L2.atI c.ways r = some w → G.F 17 [encC c, .int r] = .ok (.int w.2.2)
theorem dis_turn {c : Ch} (hc : OkC c) (D0 : DisG G c) {sd : D} {shut : List Int} (hs : RowOf sd shut) {s0 h dh r : Int} {ds : List Int} {m : Tb2} {q : List Int} (H : DH c shut s0 h dh ds (m, q)) (hr : r ∈ rAt h c.ways) (hq : q.length ≤ 5000) (v7 v8 : Option SV) :
    ∃ v7' v8', evS G dbody2 (dqS c sd s0 m q (some (.val (.int h))) (some (.val (.int r))) v7 v8) = .nx (dqS c sd s0 (rlx c shut h (m, q) r).1 (rlx c shut h (m, q) r).2 (some (.val (.int h))) (some (.val (.int r))) v7' v8') := by
  obtain ⟨w, r0, hw, tw⟩ := rAt_mem.mp hr
  have hh : m.lookup h = some dh := H.2.1
  have ml : (m.length : Int) ≤ c.many := DB.len H.1 (by have := hc.m1; omega)
  have hm2 := hc.m2
  refine ⟨some (.val (.int (oEnd w h))), some (.val (.int (dh + w.2.2))), ?_⟩
  refine q_seq (st1 := dqS c sd s0 m q (some (.val (.int h))) (some (.val (.int r))) (some (.val (.int (oEnd w h)))) (some (.val (.int (dh + w.2.2))))) (q_par (ds := [.int (oEnd w h), .int (dh + w.2.2)]) rfl (l_cons (x_call (ds := [encC c, .int r, .int h]) rfl (D0.oe r h w hw)) (l_one (x_bin (a := .int dh) (b := .int w.2.2) (x_idx (a := tbD m) (b := .int h) rfl rfl (idx_tb hh)) (x_call (ds := [encC c, .int r]) rfl (D0.len r w hw)) rfl))) rfl) ?_
  have hrl : rlx c shut h (m, q) r = if r ∉ shut ∧ better (m.lookup (oEnd w h)) (dh + w.2.2) = true then (putA m (oEnd w h) (dh + w.2.2), q ++ [oEnd w h]) else (m, q) := by
    unfold rlx
    simp only [hw, hh]
  have test : evT G (.tan (.tv (.cmp .notin (.b 6) (.b 1))) (.tor (.tv (.cmp .notin (.b 7) (.b 3))) (.tv (.cmp .lt (.b 8) (.idx (.b 3) (.b 7)))))) (dqS c sd s0 m q (some (.val (.int h))) (some (.val (.int r))) (some (.val (.int (oEnd w h)))) (some (.val (.int (dh + w.2.2))))) = .ok (!decide (r ∈ shut) && better (m.lookup (oEnd w h)) (dh + w.2.2)) := by
    refine t_and (t_v (x_cmp (a := .int r) (b := sd) rfl rfl (hs.notin r))) fun _ => ?_
    cases e : m.lookup (oEnd w h) with
    | none => exact t_or (a := true) (b := true) (t_v (x_cmp (a := .int (oEnd w h)) (b := tbD m) rfl rfl ((notin_tb m _).trans (by rw [e]; rfl)))) fun z => nomatch z
    | some u => exact t_or (a := false) (b := decide (dh + w.2.2 < u)) (t_v (x_cmp (a := .int (oEnd w h)) (b := tbD m) rfl rfl ((notin_tb m _).trans (by rw [e]; rfl)))) fun _ => t_v (x_cmp (a := .int (dh + w.2.2)) (b := .int u) rfl (x_idx (a := tbD m) (b := .int (oEnd w h)) rfl rfl (idx_tb e)) rfl)
  rw [hrl]
  by_cases cond : r ∉ shut ∧ better (m.lookup (oEnd w h)) (dh + w.2.2) = true
  · rw [if_pos cond]
    rw [cond.2, decide_eq_false cond.1] at test
    refine q_seq (q_iffT test (q_seq (q_setD (m := m) (a := oEnd w h) (v := dh + w.2.2) rfl rfl rfl rfl (by omega)) (q_seq (q_app (ds := q.map .int) (d := .int (oEnd w h)) rfl rfl rfl (by simp; omega)) q_nil))) ?_
    show evS G .nil _ = _
    rw [q_nil]
    show Out.nx [_, _, _, _, some (.own (.lst (q.map .int ++ [.int (oEnd w h)]))), _, _, _, _] = Out.nx [_, _, _, _, some (.own (.lst ((q ++ [oEnd w h]).map .int))), _, _, _, _]
    rw [List.map_append]
    rfl
  · rw [if_neg cond]
    have : (!decide (r ∈ shut) && better (m.lookup (oEnd w h)) (dh + w.2.2)) = false := by
      cases e : (!decide (r ∈ shut) && better (m.lookup (oEnd w h)) (dh + w.2.2)) with
      | false => rfl
      | true =>
        obtain ⟨z1, z2⟩ := Bool.and_eq_true_iff.mp e
        exact absurd ⟨by simpa using z1, z2⟩ cond
    rw [this] at test
    exact q_seq (q_iffF test q_nil) q_nil
theorem phi_q {c : Ch} {s : Tb2 × List Int} : s.2.length ≤ phi c s := by unfold phi; omega
theorem dis_roads {c : Ch} (hc : OkC c) (D0 : DisG G c) {sd : D} {shut : List Int} (hs : RowOf sd shut) {s0 h dh : Int} : ∀ (rs ds : List Int) (m : Tb2) (q : List Int) (v6 v7 v8 : Option SV), (∀ r ∈ rs, r ∈ rAt h c.ways) → DH c shut s0 h dh ds (m, q) → phi c (m, q) ≤ 5000 →
    ∃ v6' v7' v8', forGo (.nm 6) (evS G dbody2) (rs.map .int) (dqS c sd s0 m q (some (.val (.int h))) v6 v7 v8) = .nx (dqS c sd s0 (rs.foldl (rlx c shut h) (m, q)).1 (rs.foldl (rlx c shut h) (m, q)).2 (some (.val (.int h))) v6' v7' v8')
  | [], ds, m, q, v6, v7, v8, _, _, _ => ⟨v6, v7, v8, rfl⟩
  | r :: rs, ds, m, q, v6, v7, v8, hr, H, hp => by
    have hq : q.length ≤ phi c (m, q) := phi_q (c := c) (s := (m, q))
    obtain ⟨w7, w8, e⟩ := dis_turn hc D0 hs H (hr r List.mem_cons_self) (by omega) v7 v8
    obtain ⟨h1, h2⟩ := rlx_ok hc H (hr r List.mem_cons_self)
    obtain ⟨v6', v7', v8', ih⟩ := dis_roads hc D0 hs rs (ds ++ [r]) (rlx c shut h (m, q) r).1 (rlx c shut h (m, q) r).2 (some (.val (.int r))) w7 w8 (fun x hx => hr x (List.mem_cons_of_mem _ hx)) h1 (by show phi c (rlx c shut h (m, q) r) ≤ 5000; omega)
    refine ⟨v6', v7', v8', ?_⟩
    rw [List.map_cons, forGo]
    have b : bindT (.nm 6) (.int r) (dqS c sd s0 m q (some (.val (.int h))) v6 v7 v8) = some (dqS c sd s0 m q (some (.val (.int h))) (some (.val (.int r))) v7 v8) := rfl
    simp only [b, e]
    rw [ih, List.foldl_cons]
theorem dis_loop {c : Ch} (hc : OkC c) (D0 : DisG G c) {sd : D} {shut : List Int} (hs : RowOf sd shut) {s0 : Int} : ∀ (n : Nat) (m : Tb2) (q : List Int) (v5 v6 v7 v8 : Option SV), phi c (m, q) ≤ n → phi c (m, q) ≤ 5000 → DI c shut s0 (m, q) →
    ∃ m' v5' v6' v7' v8', DI c shut s0 (m', []) ∧ Loop (evT G (.tv (.cmp .ne (.b 4) (.lst .nil)))) (evS G dbody) (dqS c sd s0 m q v5 v6 v7 v8) (.nx (dqS c sd s0 m' [] v5' v6' v7' v8')) := by
  intro n
  induction n with
  | zero =>
    intro m q v5 v6 v7 v8 hp _ H
    have hq : q.length ≤ phi c (m, q) := phi_q (c := c) (s := (m, q))
    have : q = [] := List.length_eq_zero_iff.mp (by omega)
    subst this
    exact ⟨m, v5, v6, v7, v8, H, .stop (t_v (x_cmp (a := iL []) (b := .lst []) rfl rfl (ne_nil [])))⟩
  | succ n ih =>
    intro m q v5 v6 v7 v8 hp h5 H
    cases q with
    | nil => exact ⟨m, v5, v6, v7, v8, H, .stop (t_v (x_cmp (a := iL []) (b := .lst []) rfl rfl (ne_nil [])))⟩
    | cons h q =>
      obtain ⟨h1, h2⟩ := pop1_ok hc H
      obtain ⟨dh, hh⟩ := Option.isSome_iff_exists.mp (H.1.qin h List.mem_cons_self)
      have H0 : DH c shut s0 h dh [] (m, q) := ⟨⟨H.1.nd, H.1.kin, H.1.bd, H.1.st, H.1.wk, fun p hp => H.1.qin p (List.mem_cons_of_mem _ hp)⟩, hh, fun p v e hp hne => H.2 p v e (fun z => by
        rcases List.mem_cons.mp z with y | y
        · exact hne y
        · exact hp y), fun r hr => nomatch hr⟩
      have hpq : phi c (m, q) ≤ 5000 := by
        have : phi c (m, q) ≤ phi c (m, h :: q) := by unfold phi; simp
        omega
      obtain ⟨w6, w7, w8, L⟩ := dis_roads hc D0 hs (rAt h c.ways) [] m q v6 v7 v8 (fun _ z => z) H0 hpq
      obtain ⟨m', v5', v6', v7', v8', I', L'⟩ := ih (pop1 c shut m h q).1 (pop1 c shut m h q).2 (some (.val (.int h))) w6 w7 w8 (by show phi c (pop1 c shut m h q) ≤ n; omega) (by show phi c (pop1 c shut m h q) ≤ 5000; omega) h1
      refine ⟨m', v5', v6', v7', v8', I', .nx (t_v (x_cmp (a := iL (h :: q)) (b := .lst []) rfl rfl (ne_nil _))) ?_ L'⟩
      have e1 : evS G (.pop (.nm 5) 4 (.cons (.k (.int 0)) .nil)) (dqS c sd s0 m (h :: q) v5 v6 v7 v8) = .nx (dqS c sd s0 m q (some (.val (.int h))) v6 v7 v8) := rfl
      exact q_seq e1 (q_seq (q_for (xs := (rAt h c.ways).map .int) (i_seq (d := iL (rAt h c.ways)) (x_call (ds := [encC c, .int h]) rfl (D0.at_ h)) rfl) L) q_nil)
theorem distance_ev (hG : MapG G) {c : Ch} (hc : OkC c) (D0 : DisG G c) {sd : D} {shut : List Int} (hs : RowOf sd shut) {s0 : Int} (h0 : 0 ≤ s0) (h1 : s0 < c.many) : ∃ o, IsMin c shut s0 c.b o ∧ evB G i_distance [false, false, false] 9 [encC c, sd, .int s0] = .ok (optD o) ∧ (∀ v, o = some v → 0 ≤ v ∧ v ≤ 100) := by
  have hp : phi c ([(s0, 0)], [s0]) ≤ 5000 := by
    unfold phi
    have b1 : ((List.range c.many.toNat).map fun (i : Nat) => lab [(s0, 0)] (i : Int)).sum ≤ ((List.range c.many.toNat).map fun _ => 100).sum := sum_le fun i _ => by
      unfold lab
      split
      · rename_i v e
        have := memL e
        simp at this
        omega
      · exact Nat.le_refl _
    have b2 : ((List.range c.many.toNat).map fun _ => 100).sum = c.many.toNat * 100 := by
      rw [map_rep, List.length_range, List.sum_replicate_nat]
    have := hc.m2
    simp only [List.length_cons, List.length_nil]
    omega
  obtain ⟨m', v5, v6, v7, v8, I, L⟩ := dis_loop hc D0 hs _ [(s0, 0)] [s0] none none none none (Nat.le_refl _) hp (DI.start h0 h1)
  refine ⟨m'.lookup c.b, I.done c.b, ?_, fun v e => ?_⟩
  · refine q_body (o := .rt (optD (m'.lookup c.b))) rfl (q_seq (st1 := dqS c sd s0 [(s0, 0)] [s0] none none none none) (q_par (ds := [tbD [(s0, 0)], iL [s0]]) rfl rfl rfl) (q_seq (st1 := dqS c sd s0 m' [] v5 v6 v7 v8) ?_ (q_seqR (q_ret rfl ?_))))
    · show whileD _ _ _ = _
      exact whileD_eq L
    · have e1 : ev G (.idx (.att (.b 0) 2) (.k (.int 1))) (frz (dqS c sd s0 m' [] v5 v6 v7 v8)) = .ok (.int c.b) := x_idx (a := .tup [.int c.a, .int c.b]) (b := .int 1) (x_slot (c := 0) (j := 0) (fs := [.tup [.int c.a, .int c.b], .int c.limit, .int c.many, .tup (c.ways.map wayD)]) rfl hG.aims rfl) rfl rfl
      have e2 : ev G (.b 3) (frz (dqS c sd s0 m' [] v5 v6 v7 v8)) = .ok (tbD m') := rfl
      rw [ev, e2]
      show (R.bind (ev G (.idx (.att (.b 0) 2) (.k (.int 1))) (frz (dqS c sd s0 m' [] v5 v6 v7 v8))) fun b => chk (isKey b) ((dGet b (m'.map fun q => D.int q.1) (m'.map fun q => D.int q.2)).getD .non)) = _
      rw [e1]
      show R.ok ((dGet (.int c.b) (m'.map fun q => D.int q.1) (m'.map fun q => D.int q.2)).getD .non) = _
      rw [dGet_tb]
      cases m'.lookup c.b <;> rfl
  · have b := I.1.bd _ _ e
    have := DB.len I.1 (by have := hc.m1; omega)
    have := hc.m2
    exact ⟨b.1, by omega⟩
end
end Z

/-! P8: the law's own least lengths, by rounds. -/
namespace Z
open PySem
abbrev Lb := List (Option Int)
def gt (f : Lb) (p : Int) : Option Int := (f[p.toNat]?).getD none
def rel1 (f : Lb) (h t l : Int) : Lb := match gt f h with
  | none => f
  | some v => f.set t.toNat (if better (gt f t) (v + l) = true then some (v + l) else gt f t)
def stepW (shut : List Int) (f : Lb) (q : Way × Nat) : Lb := if (q.2 : Int) ∈ shut then f else rel1 (rel1 f q.1.1 q.1.2.1 q.1.2.2) q.1.2.1 q.1.1 q.1.2.2
def roundF (c : Ch) (shut : List Int) (f : Lb) : Lb := (c.ways.zipIdx 0).foldl (stepW shut) f
def initF (c : Ch) (s0 : Int) : Lb := (List.replicate c.many.toNat none).set s0.toNat (some 0)
def iterF (c : Ch) (shut : List Int) : Nat → Lb → Lb
  | 0, f => f
  | n + 1, f => iterF c shut n (roundF c shut f)
def LeF (f' f : Lb) : Prop := ∀ p v, 0 ≤ p → gt f p = some v → ∃ v', gt f' p = some v' ∧ v' ≤ v
theorem LeF.refl (f : Lb) : LeF f f := fun p v _ e => ⟨v, e, Int.le_refl _⟩
theorem LeF.trans {f g h : Lb} (a : LeF f g) (b : LeF g h) : LeF f h := fun p v hp e => by
  obtain ⟨u, e1, l1⟩ := b p v hp e
  obtain ⟨x, e2, l2⟩ := a p u hp e1
  exact ⟨x, e2, by omega⟩
theorem gt_set {f : Lb} {t p : Int} {o : Option Int} (ht : 0 ≤ t) (htl : t < f.length) (hp : 0 ≤ p) : gt (f.set t.toNat o) p = if p = t then o else gt f p := by
  unfold gt
  by_cases h : p = t
  · subst h; rw [if_pos rfl, List.getElem?_set_self (by omega)]; rfl
  · rw [if_neg h, List.getElem?_set_ne (by omega)]
structure SF (c : Ch) (shut : List Int) (s0 : Int) (f : Lb) : Prop where
  len : f.length = c.many.toNat
  wk : ∀ p v, 0 ≤ p → gt f p = some v → Wk c shut s0 p v
theorem rel1_len (f : Lb) (h t l : Int) : (rel1 f h t l).length = f.length := by
  unfold rel1
  split <;> simp
theorem rel1_ok {c : Ch} {shut : List Int} {s0 h t l : Int} {f : Lb} (S : SF c shut s0 f) (hh : 0 ≤ h) (ht : 0 ≤ t) (htm : t < c.many) (ed : ∀ v, Wk c shut s0 h v → Wk c shut s0 t (v + l)) : SF c shut s0 (rel1 f h t l) ∧ LeF (rel1 f h t l) f ∧ ∀ v, gt f h = some v → ∃ u, gt (rel1 f h t l) t = some u ∧ u ≤ v + l := by
  have tl : t < f.length := by rw [S.len]; omega
  cases e : gt f h with
  | none =>
    have r : rel1 f h t l = f := by unfold rel1; rw [e]
    rw [r]
    exact ⟨S, LeF.refl f, fun v z => nomatch z⟩
  | some v =>
    have r : rel1 f h t l = f.set t.toNat (if better (gt f t) (v + l) = true then some (v + l) else gt f t) := by unfold rel1; rw [e]
    have g : ∀ p, 0 ≤ p → gt (rel1 f h t l) p = if p = t then (if better (gt f t) (v + l) = true then some (v + l) else gt f t) else gt f p := fun p hp => by rw [r]; exact gt_set ht tl hp
    refine ⟨⟨by rw [rel1_len]; exact S.len, fun p u hp q => ?_⟩, fun p u hp q => ?_, fun v' z => ?_⟩
    · rw [g p hp] at q
      by_cases z : p = t
      · rw [if_pos z] at q
        split at q
        · cases q; rw [z]; exact ed v (S.wk h v hh e)
        · rw [z]; exact S.wk t u ht q
      · rw [if_neg z] at q; exact S.wk p u hp q
    · rw [g p hp]
      by_cases z : p = t
      · rw [if_pos z]
        subst z
        rw [q]
        split
        · rename_i b
          have : v + l < u := of_decide_eq_true b
          exact ⟨_, rfl, by omega⟩
        · exact ⟨u, rfl, Int.le_refl _⟩
      · rw [if_neg z]; exact ⟨u, q, Int.le_refl _⟩
    · cases z
      rw [g t ht, if_pos rfl]
      split
      · exact ⟨_, rfl, Int.le_refl _⟩
      · rename_i b
        cases e2 : gt f t with
        | none => rw [e2] at b; exact absurd rfl b
        | some u =>
          rw [e2] at b
          have : ¬ v + l < u := fun z => b (decide_eq_true z)
          exact ⟨u, rfl, by omega⟩
theorem atI_zip {ws : List Way} {q : Way × Nat} (h : q ∈ ws.zipIdx 0) : L2.atI ws q.2 = some q.1 ∧ q.1 ∈ ws := by
  have h4 := List.mem_zipIdx_iff_getElem?.mp h
  have hlt := (List.getElem?_eq_some_iff.mp h4).1
  refine ⟨?_, List.mem_of_getElem? h4⟩
  unfold L2.atI L2.ixN
  rw [if_pos (by omega), if_pos (by omega)]
  simpa using h4
theorem oEnd_1 (w : Way) : oEnd w w.1 = w.2.1 := by unfold oEnd; rw [if_pos rfl]
theorem oEnd_2 {w : Way} (h : w.1 < w.2.1) : oEnd w w.2.1 = w.1 := by unfold oEnd; rw [if_neg (by omega)]
theorem stepW_ok {c : Ch} {shut : List Int} {s0 : Int} {f : Lb} (hc : OkC c) (S : SF c shut s0 f) {q : Way × Nat} (hq : q ∈ c.ways.zipIdx 0) : SF c shut s0 (stepW shut f q) ∧ LeF (stepW shut f q) f ∧ ((q.2 : Int) ∉ shut → (∀ v, gt f q.1.1 = some v → ∃ u, gt (stepW shut f q) q.1.2.1 = some u ∧ u ≤ v + q.1.2.2) ∧ ∀ v, gt f q.1.2.1 = some v → ∃ u, gt (stepW shut f q) q.1.1 = some u ∧ u ≤ v + q.1.2.2) := by
  obtain ⟨a1, a2⟩ := atI_zip hq
  obtain ⟨w1, w2, w3, w4, w5⟩ := hc.w _ a2
  unfold stepW
  by_cases hs : (q.2 : Int) ∈ shut
  · rw [if_pos hs]; exact ⟨S, LeF.refl f, fun z => absurd hs z⟩
  · rw [if_neg hs]
    have t1 : tch q.1.1 q.1 = true := decide_eq_true (.inl rfl)
    have t2 : tch q.1.2.1 q.1 = true := decide_eq_true (.inr rfl)
    obtain ⟨S1, L1, N1⟩ := rel1_ok (t := q.1.2.1) (l := q.1.2.2) S w1 (by omega) w3 (fun v wk => by
      have := Wk.step wk a1 (by omega) t1 hs
      rw [oEnd_1] at this
      exact this)
    obtain ⟨S2, L2', N2⟩ := rel1_ok (t := q.1.1) (l := q.1.2.2) S1 (show 0 ≤ q.1.2.1 by omega) w1 (by omega) (fun v wk => by
      have := Wk.step wk a1 (by omega) t2 hs
      rw [oEnd_2 w2] at this
      exact this)
    refine ⟨S2, L2'.trans L1, fun _ => ⟨fun v e => ?_, fun v e => ?_⟩⟩
    · obtain ⟨u, e1, l1⟩ := N1 v e
      obtain ⟨u', e2, l2⟩ := L2' _ u (by omega) e1
      exact ⟨u', e2, by omega⟩
    · obtain ⟨v', e1, l1⟩ := L1 _ v (by omega) e
      obtain ⟨u, e2, l2⟩ := N2 v' e1
      exact ⟨u, e2, by omega⟩
theorem round_ok {c : Ch} {shut : List Int} {s0 : Int} (hc : OkC c) : ∀ (l : List (Way × Nat)) (f : Lb), (∀ q ∈ l, q ∈ c.ways.zipIdx 0) → SF c shut s0 f → SF c shut s0 (l.foldl (stepW shut) f) ∧ LeF (l.foldl (stepW shut) f) f ∧
    ∀ q ∈ l, (q.2 : Int) ∉ shut → (∀ v, gt f q.1.1 = some v → ∃ u, gt (l.foldl (stepW shut) f) q.1.2.1 = some u ∧ u ≤ v + q.1.2.2) ∧ ∀ v, gt f q.1.2.1 = some v → ∃ u, gt (l.foldl (stepW shut) f) q.1.1 = some u ∧ u ≤ v + q.1.2.2
  | [], f, _, S => ⟨S, LeF.refl f, fun q hq => nomatch hq⟩
  | q :: l, f, hl, S => by
    obtain ⟨S1, L1, N1⟩ := stepW_ok hc S (hl q List.mem_cons_self)
    obtain ⟨S2, L2', N2⟩ := round_ok hc l (stepW shut f q) (fun x hx => hl x (List.mem_cons_of_mem _ hx)) S1
    refine ⟨S2, L2'.trans L1, fun x hx hs => ?_⟩
    obtain ⟨a1, a2⟩ := atI_zip (hl x hx)
    obtain ⟨w1, w2, w3, w4, w5⟩ := hc.w _ a2
    rcases List.mem_cons.mp hx with z | z
    · subst z
      obtain ⟨n1, n2⟩ := N1 hs
      refine ⟨fun v e => ?_, fun v e => ?_⟩
      · obtain ⟨u, e1, l1⟩ := n1 v e
        obtain ⟨u', e2, l2⟩ := L2' _ u (by omega) e1
        exact ⟨u', e2, by omega⟩
      · obtain ⟨u, e1, l1⟩ := n2 v e
        obtain ⟨u', e2, l2⟩ := L2' _ u (by omega) e1
        exact ⟨u', e2, by omega⟩
    · obtain ⟨n1, n2⟩ := N2 x z hs
      refine ⟨fun v e => ?_, fun v e => ?_⟩
      · obtain ⟨v', e1, l1⟩ := L1 _ v (by omega) e
        obtain ⟨u, e2, l2⟩ := n1 v' e1
        exact ⟨u, e2, by omega⟩
      · obtain ⟨v', e1, l1⟩ := L1 _ v (by omega) e
        obtain ⟨u, e2, l2⟩ := n2 v' e1
        exact ⟨u, e2, by omega⟩
/-- how many have less -/
def rk (m : Tb2) (v : Int) : Nat := (m.filter fun q => decide (q.2 < v)).length
theorem rk_le (m : Tb2) {a b : Int} (h : a ≤ b) : rk m a ≤ rk m b := by
  unfold rk
  induction m with
  | nil => exact Nat.le_refl _
  | cons q m ih =>
    by_cases h1 : q.2 < a
    · rw [List.filter_cons_of_pos (by simpa using h1), List.filter_cons_of_pos (by simp; omega)]
      simp
      exact ih
    · rw [List.filter_cons_of_neg (by simpa using h1)]
      by_cases h2 : q.2 < b
      · rw [List.filter_cons_of_pos (by simpa using h2)]; simp; omega
      · rw [List.filter_cons_of_neg (by simpa using h2)]; exact ih
theorem rk_lt {u a b : Int} (h : a < b) : ∀ {m : Tb2}, (u, a) ∈ m → rk m a < rk m b
  | q :: m, hm => by
    unfold rk
    rcases List.mem_cons.mp hm with z | z
    · subst z
      rw [List.filter_cons_of_neg (by simp), List.filter_cons_of_pos (by simpa using h)]
      have := rk_le m (show a ≤ b by omega)
      unfold rk at this
      simp
      omega
    · have ih := rk_lt h z
      unfold rk at ih
      by_cases h1 : q.2 < a
      · rw [List.filter_cons_of_pos (by simpa using h1), List.filter_cons_of_pos (by simp; omega)]
        simp
        exact ih
      · rw [List.filter_cons_of_neg (by simpa using h1)]
        by_cases h2 : q.2 < b
        · rw [List.filter_cons_of_pos (by simpa using h2)]; simp; omega
        · rw [List.filter_cons_of_neg (by simpa using h2)]; exact ih
theorem rk_all (m : Tb2) (v : Int) : rk m v ≤ m.length := List.length_filter_le _ _
def Reach (m : Tb2) (k : Nat) (f : Lb) : Prop := ∀ p v, m.lookup p = some v → rk m v ≤ k → ∃ u, gt f p = some u ∧ u ≤ v
theorem iter_ok {c : Ch} {shut : List Int} {s0 : Int} {m : Tb2} (hc : OkC c) (H : DI c shut s0 (m, [])) (h0 : 0 ≤ s0) : ∀ (n k : Nat) (f : Lb), SF c shut s0 f → (∃ u, gt f s0 = some u ∧ u ≤ 0) → Reach m k f → SF c shut s0 (iterF c shut n f) ∧ Reach m (k + n) (iterF c shut n f)
  | 0, k, f, S, _, R => ⟨S, R⟩
  | n + 1, k, f, S, Z0, R => by
    obtain ⟨S1, L1, N1⟩ := round_ok hc (c.ways.zipIdx 0) f (fun _ z => z) S
    have Z1 : ∃ u, gt (roundF c shut f) s0 = some u ∧ u ≤ 0 := by
      obtain ⟨u, e, l⟩ := Z0
      obtain ⟨u', e', l'⟩ := L1 s0 u h0 e
      exact ⟨u', e', by omega⟩
    have R1 : Reach m (k + 1) (roundF c shut f) := fun p v e hk => by
      have wk := H.1.wk p v e
      cases wk with
      | nil => exact Z1
      | @step p' L r w wk' a1 a2 a3 a4 =>
        have hmin := H.done p'
        have e1 : ∃ v', m.lookup p' = some v' := by
          cases q : m.lookup p' with
          | none => rw [q] at hmin; exact absurd wk' (hmin L)
          | some v' => exact ⟨v', rfl⟩
        obtain ⟨v', e1⟩ := e1
        rw [e1] at hmin
        have l1 := hmin.2 L wk'
        obtain ⟨u, e2, l2⟩ := H.2 p' v' e1 (by simp) r w a2 a1 a3 a4
        rw [e] at e2
        cases e2
        obtain ⟨b1, b2⟩ := atI_bd a2 a1
        obtain ⟨w1, w2, w3, w4, w5⟩ := hc.w w b2
        have ve : v' = L := by omega
        subst ve
        have hr : rk m v' < rk m (v' + w.2.2) := rk_lt (by omega) (memL e1)
        obtain ⟨x, e3, l3⟩ := R p' v' e1 (by omega)
        have hz : (w, r.toNat) ∈ c.ways.zipIdx 0 := by
          refine List.mem_zipIdx_iff_getElem?.mpr ?_
          unfold L2.atI L2.ixN at a1
          rw [if_pos a2, if_pos b1] at a1
          exact a1
        have hrn : ((r.toNat : Nat) : Int) = r := by omega
        obtain ⟨n1, n2⟩ := N1 (w, r.toNat) hz (by rw [hrn]; exact a4)
        rcases tch_cases a3 with z | z
        · subst z
          rw [oEnd_1]
          obtain ⟨y, e4, l4⟩ := n1 x e3
          exact ⟨y, e4, by have l4 : y ≤ x + w.2.2 := l4; omega⟩
        · subst z
          rw [oEnd_2 w2]
          obtain ⟨y, e4, l4⟩ := n2 x e3
          exact ⟨y, e4, by have l4 : y ≤ x + w.2.2 := l4; omega⟩
    have := iter_ok hc H h0 n (k + 1) (roundF c shut f) S1 Z1 R1
    rw [Nat.add_assoc, Nat.add_comm 1 n] at this
    exact this
theorem far_min {c : Ch} {shut : List Int} {s0 : Int} {m : Tb2} (hc : OkC c) (H : DI c shut s0 (m, [])) (h0 : 0 ≤ s0) (h1 : s0 < c.many) {t : Int} (ht : 0 ≤ t) : IsMin c shut s0 t (gt (iterF c shut c.many.toNat (initF c s0)) t) := by
  have il : (initF c s0).length = c.many.toNat := by unfold initF; simp
  have g0 : ∀ p, 0 ≤ p → gt (initF c s0) p = if p = s0 then some 0 else none := fun p hp => by
    unfold initF
    rw [gt_set h0 (by simp; omega) hp]
    by_cases z : p = s0
    · rw [if_pos z, if_pos z]
    · rw [if_neg z, if_neg z]
      unfold gt
      rw [List.getElem?_replicate]
      split <;> rfl
  have S0 : SF c shut s0 (initF c s0) := ⟨il, fun p v hp e => by
    rw [g0 p hp] at e
    by_cases z : p = s0
    · rw [if_pos z] at e; cases e; rw [z]; exact .nil
    · rw [if_neg z] at e; cases e⟩
  have Z0 : ∃ u, gt (initF c s0) s0 = some u ∧ u ≤ 0 := ⟨0, by rw [g0 s0 h0, if_pos rfl], Int.le_refl _⟩
  have R0 : Reach m 0 (initF c s0) := fun p v e hk => by
    have hb := H.1.bd p v e
    have hv : v = 0 := by
      by_cases z : 0 < v
      · have := rk_lt (m := m) z (memL H.1.st)
        omega
      · omega
    subst hv
    have wk := H.1.wk p 0 e
    generalize hz : (0 : Int) = z at wk
    cases wk with
    | nil => exact Z0
    | @step p' L r w wk' a1 a2 a3 a4 =>
      obtain ⟨b1, b2⟩ := atI_bd a2 a1
      obtain ⟨w1, w2, w3, w4, w5⟩ := hc.w w b2
      have hmin := H.done p'
      cases q : m.lookup p' with
      | none => rw [q] at hmin; exact absurd wk' (hmin L)
      | some v' =>
        rw [q] at hmin
        have := hmin.2 L wk'
        have := (H.1.bd p' v' q).1
        omega
  obtain ⟨S1, R1⟩ := iter_ok hc H h0 c.many.toNat 0 (initF c s0) S0 Z0 R0
  have hmin := H.done t
  cases e : gt (iterF c shut c.many.toNat (initF c s0)) t with
  | none =>
    intro L wk
    cases q : m.lookup t with
    | none => rw [q] at hmin; exact hmin L wk
    | some v =>
      have hl : (m.length : Int) ≤ c.many := DB.len H.1 (by have := hc.m1; omega)
      obtain ⟨u, e1, _⟩ := R1 t v q (by have := rk_all m v; omega)
      rw [e] at e1
      cases e1
  | some v =>
    refine ⟨S1.wk t v ht e, fun L wk => ?_⟩
    cases q : m.lookup t with
    | none => rw [q] at hmin; exact absurd wk (hmin L)
    | some v' =>
      rw [q] at hmin
      have hl : (m.length : Int) ≤ c.many := DB.len H.1 (by have := hc.m1; omega)
      obtain ⟨u, e1, l1⟩ := R1 t v' q (by have := rk_all m v'; omega)
      rw [e] at e1
      cases e1
      have := hmin.2 L wk
      omega
end Z

/-! P9: the law's least lengths as they are computed. -/
namespace Z
open PySem
theorem di_ex {c : Ch} {shut : List Int} {s0 : Int} (hc : OkC c) : ∀ (n : Nat) (s : Tb2 × List Int), phi c s ≤ n → DI c shut s0 s → ∃ m, DI c shut s0 (m, [])
  | n, (m, []), _, H => ⟨m, H⟩
  | 0, (m, h :: q), hp, H => by
    have := phi_q (c := c) (s := (m, h :: q))
    simp at this
    omega
  | n + 1, (m, h :: q), hp, H => by
    obtain ⟨h1, h2⟩ := pop1_ok hc H
    exact di_ex hc n _ (by omega) h1
def bD (f : Lb) : D := .lst (f.map optD)
theorem ixN_ok {n : Nat} {i : Int} (h0 : 0 ≤ i) (h1 : i < n) : L2.ixN n i = some i.toNat := by
  unfold L2.ixN
  rw [if_pos h0, if_pos h1]
theorem idx_bD {f : Lb} {h : Int} (h0 : 0 ≤ h) (h1 : h < f.length) : dIdx (bD f) (.int h) = .ok (optD (gt f h)) := by
  show rb (L2.atI (f.map optD) h) R.ok = _
  rw [atI_map']
  unfold L2.atI gt
  rw [ixN_ok h0 h1]
  show rb ((f[h.toNat]?).map optD) R.ok = _
  rw [List.getElem?_eq_getElem (by omega)]
  rfl
section
variable {G : Pg}
theorem q_setL {i : Nat} {k e : Ex} {st : Sl} {ds : List D} {j : Int} {n : Nat} {d : D} (hi : st[i]? = some (some (.own (.lst ds)))) (hb : isB e = false) (he : ev G e st = .ok d) (hk : ev G k st = .ok (.int j)) (hj : L2.ixN ds.length j = some n) : evS G (.set i k e) st = .nx (st.set i (some (.own (.lst (ds.set n d))))) := by
  rw [evS]
  simp only [hi, hb, he, hk]
  simp only [R.out, hj]
  rfl
abbrev fbody3 : Sx := .seq (.iff (.tv (.cmp .notN (.idx (.b 3) (.b 9)) (.k .non))) (.seq (.asg (.nm 11) (.bin .add (.idx (.b 3) (.b 9)) (.b 8))) (.seq (.set 3 (.b 10) (.ite (.tor (.tv (.cmp .isN (.idx (.b 3) (.b 10)) (.k .non))) (.tv (.cmp .lt (.b 11) (.idx (.b 3) (.b 10))))) (.v 11) (.idx (.b 3) (.b 10)))) .nil)) .nil) .nil
abbrev fbody2 : Sx := .seq (.iff (.tv (.cmp .notin (.b 5) (.b 1))) (.seq (.forr (.tp (.cons (.nm 9) (.cons (.nm 10) .nil))) (.sSeq (.lst (.cons (.tup (.cons (.v 6) (.cons (.v 7) .nil))) (.cons (.tup (.cons (.v 7) (.cons (.v 6) .nil))) .nil)))) fbody3) .nil) .nil) .nil
abbrev fbody1 : Sx := .seq (.forr (.tp (.cons (.nm 5) (.cons (.tp (.cons (.nm 6) (.cons (.nm 7) (.cons (.nm 8) .nil)))) .nil))) (.sEnum (.idx (.b 0) (.k (.int 1)))) fbody2) .nil
def fS (c : Ch) (sd : D) (s0 : Int) (f : Lb) (v4 v5 v6 v7 v8 v9 v10 v11 : Option SV) : Sl := [some (.val (encP c)), some (.val sd), some (.val (.int s0)), some (.own (bD f)), v4, v5, v6, v7, v8, v9, v10, v11]
theorem far_turn (c : Ch) (sd : D) (s0 : Int) (f : Lb) {h t l : Int} (h0 : 0 ≤ h) (h1 : h < f.length) (t0 : 0 ≤ t) (t1 : t < f.length) (v4 v5 v6 v7 v11 : Option SV) :
    ∃ w11, evS G fbody3 (fS c sd s0 f v4 v5 v6 v7 (some (.val (.int l))) (some (.val (.int h))) (some (.val (.int t))) v11) = .nx (fS c sd s0 (rel1 f h t l) v4 v5 v6 v7 (some (.val (.int l))) (some (.val (.int h))) (some (.val (.int t))) w11) := by
  have eh : ∀ w, ev G (.idx (.b 3) (.b 9)) (fS c sd s0 f v4 v5 v6 v7 (some (.val (.int l))) (some (.val (.int h))) (some (.val (.int t))) w) = .ok (optD (gt f h)) := fun w => x_idx (a := bD f) (b := .int h) rfl rfl (idx_bD h0 h1)
  have et : ∀ w, ev G (.idx (.b 3) (.b 10)) (fS c sd s0 f v4 v5 v6 v7 (some (.val (.int l))) (some (.val (.int h))) (some (.val (.int t))) w) = .ok (optD (gt f t)) := fun w => x_idx (a := bD f) (b := .int t) rfl rfl (idx_bD t0 t1)
  cases e : gt f h with
  | none =>
    refine ⟨v11, ?_⟩
    have r : rel1 f h t l = f := by unfold rel1; rw [e]
    rw [r]
    rw [e] at eh
    exact q_seq (q_iffF (t_v (x_cmp (a := .non) (b := .non) (d := .bl false) (eh _) rfl rfl)) q_nil) q_nil
  | some v =>
    rw [e] at eh
    have r : rel1 f h t l = f.set t.toNat (if better (gt f t) (v + l) = true then some (v + l) else gt f t) := by unfold rel1; rw [e]
    refine ⟨some (.val (.int (v + l))), ?_⟩
    have es : ev G (.ite (.tor (.tv (.cmp .isN (.idx (.b 3) (.b 10)) (.k .non))) (.tv (.cmp .lt (.b 11) (.idx (.b 3) (.b 10))))) (.v 11) (.idx (.b 3) (.b 10))) (fS c sd s0 f v4 v5 v6 v7 (some (.val (.int l))) (some (.val (.int h))) (some (.val (.int t))) (some (.val (.int (v + l))))) = .ok (optD (if better (gt f t) (v + l) = true then some (v + l) else gt f t)) := by
      have et' := et (some (.val (.int (v + l))))
      cases e2 : gt f t with
      | none =>
        rw [e2] at et'
        exact x_iteT (t_or (a := true) (b := true) (t_v (x_cmp (a := .non) (b := .non) (d := .bl true) et' rfl rfl)) fun z => nomatch z) rfl
      | some u =>
        rw [e2] at et'
        have k1 : evT G (.tor (.tv (.cmp .isN (.idx (.b 3) (.b 10)) (.k .non))) (.tv (.cmp .lt (.b 11) (.idx (.b 3) (.b 10))))) (fS c sd s0 f v4 v5 v6 v7 (some (.val (.int l))) (some (.val (.int h))) (some (.val (.int t))) (some (.val (.int (v + l))))) = .ok (false || decide (v + l < u)) :=
          t_or (t_v (x_cmp (a := .int u) (b := .non) (d := .bl false) et' rfl rfl)) fun _ => t_v (x_cmp (a := .int (v + l)) (b := .int u) rfl et' rfl)
        by_cases z : v + l < u
        · rw [decide_eq_true z] at k1
          have b : better (some u) (v + l) = true := decide_eq_true z
          rw [if_pos b]
          exact x_iteT k1 rfl
        · rw [decide_eq_false z] at k1
          have b : ¬ better (some u) (v + l) = true := fun q => z (of_decide_eq_true q)
          rw [if_neg b]
          exact x_iteF k1 et'
    refine q_seq (q_iffT (t_v (x_cmp (a := .int v) (b := .non) (d := .bl true) (eh _) rfl rfl)) (q_seq (st1 := fS c sd s0 f v4 v5 v6 v7 (some (.val (.int l))) (some (.val (.int h))) (some (.val (.int t))) (some (.val (.int (v + l))))) (q_asg (d := .int (v + l)) rfl (x_bin (a := .int v) (b := .int l) (eh _) rfl rfl) rfl)
      (q_seq (q_setL (ds := f.map optD) (j := t) (n := t.toNat) rfl rfl es rfl (ixN_ok t0 (by simpa using t1))) q_nil))) ?_
    rw [r]
    show Out.nx [_, _, _, some (.own (.lst ((f.map optD).set t.toNat _))), _, _, _, _, _, _, _, _] = Out.nx [_, _, _, some (.own (.lst ((f.set t.toNat _).map optD))), _, _, _, _, _, _, _, _]
    rw [List.map_set]
theorem far_road {c : Ch} (hc : OkC c) {sd : D} {shut : List Int} (hs : RowOf sd shut) (s0 : Int) (f : Lb) (hl : f.length = c.many.toNat) {q : Way × Nat} (hq : q ∈ c.ways.zipIdx 0) (v4 v9 v10 v11 : Option SV) :
    ∃ w9 w10 w11, evS G fbody2 (fS c sd s0 f v4 (some (.val (.int q.2))) (some (.val (.int q.1.1))) (some (.val (.int q.1.2.1))) (some (.val (.int q.1.2.2))) v9 v10 v11) = .nx (fS c sd s0 (stepW shut f q) v4 (some (.val (.int q.2))) (some (.val (.int q.1.1))) (some (.val (.int q.1.2.1))) (some (.val (.int q.1.2.2))) w9 w10 w11) := by
  obtain ⟨a1, a2⟩ := atI_zip hq
  obtain ⟨w1, w2, w3, w4, w5⟩ := hc.w _ a2
  have test : evT G (.tv (.cmp .notin (.b 5) (.b 1))) (fS c sd s0 f v4 (some (.val (.int q.2))) (some (.val (.int q.1.1))) (some (.val (.int q.1.2.1))) (some (.val (.int q.1.2.2))) v9 v10 v11) = .ok (!decide ((q.2 : Int) ∈ shut)) := t_v (x_cmp (a := .int q.2) (b := sd) rfl rfl (hs.notin _))
  by_cases z : (q.2 : Int) ∈ shut
  · rw [decide_eq_true z] at test
    have r : stepW shut f q = f := by unfold stepW; rw [if_pos z]
    rw [r]
    exact ⟨v9, v10, v11, q_seq (q_iffF test q_nil) q_nil⟩
  · rw [decide_eq_false z] at test
    have r : stepW shut f q = rel1 (rel1 f q.1.1 q.1.2.1 q.1.2.2) q.1.2.1 q.1.1 q.1.2.2 := by unfold stepW; rw [if_neg z]
    obtain ⟨x1, e1⟩ := far_turn (G := G) c sd s0 f (h := q.1.1) (t := q.1.2.1) (l := q.1.2.2) w1 (by omega) (by omega) (by omega) v4 (some (.val (.int q.2))) (some (.val (.int q.1.1))) (some (.val (.int q.1.2.1))) v11
    have l2 : (rel1 f q.1.1 q.1.2.1 q.1.2.2).length = c.many.toNat := by rw [rel1_len]; exact hl
    obtain ⟨x2, e2⟩ := far_turn (G := G) c sd s0 (rel1 f q.1.1 q.1.2.1 q.1.2.2) (h := q.1.2.1) (t := q.1.1) (l := q.1.2.2) (by omega) (by omega) (by omega) (by omega) v4 (some (.val (.int q.2))) (some (.val (.int q.1.1))) (some (.val (.int q.1.2.1))) x1
    rw [r]
    refine ⟨some (.val (.int q.1.2.1)), some (.val (.int q.1.1)), x2, q_seq (q_iffT test (q_seq (q_for (xs := [.tup [.int q.1.1, .int q.1.2.1], .tup [.int q.1.2.1, .int q.1.1]]) rfl ?_) q_nil)) q_nil⟩
    have b1 : bindT (.tp (.cons (.nm 9) (.cons (.nm 10) .nil))) (.tup [.int q.1.1, .int q.1.2.1]) (fS c sd s0 f v4 (some (.val (.int q.2))) (some (.val (.int q.1.1))) (some (.val (.int q.1.2.1))) (some (.val (.int q.1.2.2))) v9 v10 v11) = some (fS c sd s0 f v4 (some (.val (.int q.2))) (some (.val (.int q.1.1))) (some (.val (.int q.1.2.1))) (some (.val (.int q.1.2.2))) (some (.val (.int q.1.1))) (some (.val (.int q.1.2.1))) v11) := rfl
    have b2 : bindT (.tp (.cons (.nm 9) (.cons (.nm 10) .nil))) (.tup [.int q.1.2.1, .int q.1.1]) (fS c sd s0 (rel1 f q.1.1 q.1.2.1 q.1.2.2) v4 (some (.val (.int q.2))) (some (.val (.int q.1.1))) (some (.val (.int q.1.2.1))) (some (.val (.int q.1.2.2))) (some (.val (.int q.1.1))) (some (.val (.int q.1.2.1))) x1) = some (fS c sd s0 (rel1 f q.1.1 q.1.2.1 q.1.2.2) v4 (some (.val (.int q.2))) (some (.val (.int q.1.1))) (some (.val (.int q.1.2.1))) (some (.val (.int q.1.2.2))) (some (.val (.int q.1.2.1))) (some (.val (.int q.1.1))) x1) := rfl
    rw [forGo]
    simp only [b1, e1]
    rw [forGo]
    simp only [b2, e2]
    rfl
theorem stepW_len (shut : List Int) (f : Lb) (q : Way × Nat) : (stepW shut f q).length = f.length := by
  unfold stepW
  split
  · rfl
  · rw [rel1_len, rel1_len]
theorem far_roads {c : Ch} (hc : OkC c) {sd : D} {shut : List Int} (hs : RowOf sd shut) (s0 : Int) : ∀ (qs : List (Way × Nat)) (f : Lb) (v4 v5 v6 v7 v8 v9 v10 v11 : Option SV), (∀ q ∈ qs, q ∈ c.ways.zipIdx 0) → f.length = c.many.toNat →
    ∃ w5 w6 w7 w8 w9 w10 w11, forGo (.tp (.cons (.nm 5) (.cons (.tp (.cons (.nm 6) (.cons (.nm 7) (.cons (.nm 8) .nil)))) .nil))) (evS G fbody2) (qs.map fun q => D.tup [.int q.2, wayD q.1]) (fS c sd s0 f v4 v5 v6 v7 v8 v9 v10 v11) = .nx (fS c sd s0 (qs.foldl (stepW shut) f) v4 w5 w6 w7 w8 w9 w10 w11)
  | [], f, v4, v5, v6, v7, v8, v9, v10, v11, _, _ => ⟨v5, v6, v7, v8, v9, v10, v11, rfl⟩
  | q :: qs, f, v4, v5, v6, v7, v8, v9, v10, v11, hq, hl => by
    obtain ⟨x9, x10, x11, e⟩ := far_road (G := G) hc hs s0 f hl (hq q List.mem_cons_self) v4 v9 v10 v11
    obtain ⟨w5, w6, w7, w8, w9, w10, w11, ih⟩ := far_roads hc hs s0 qs (stepW shut f q) v4 (some (.val (.int q.2))) (some (.val (.int q.1.1))) (some (.val (.int q.1.2.1))) (some (.val (.int q.1.2.2))) x9 x10 x11 (fun x hx => hq x (List.mem_cons_of_mem _ hx)) (by rw [stepW_len]; exact hl)
    refine ⟨w5, w6, w7, w8, w9, w10, w11, ?_⟩
    have b : bindT (.tp (.cons (.nm 5) (.cons (.tp (.cons (.nm 6) (.cons (.nm 7) (.cons (.nm 8) .nil)))) .nil))) (D.tup [.int q.2, wayD q.1]) (fS c sd s0 f v4 v5 v6 v7 v8 v9 v10 v11) = some (fS c sd s0 f v4 (some (.val (.int q.2))) (some (.val (.int q.1.1))) (some (.val (.int q.1.2.1))) (some (.val (.int q.1.2.2))) v9 v10 v11) := rfl
    rw [List.map_cons, forGo]
    simp only [b, e]
    rw [ih, List.foldl_cons]
theorem round_len (c : Ch) (shut : List Int) (f : Lb) : (roundF c shut f).length = f.length := by
  unfold roundF
  generalize c.ways.zipIdx 0 = l
  induction l generalizing f with
  | nil => rfl
  | cons q l ih => rw [List.foldl_cons, ih, stepW_len]
theorem far_rounds {c : Ch} (hc : OkC c) {sd : D} {shut : List Int} (hs : RowOf sd shut) (s0 : Int) : ∀ (ts : List Int) (f : Lb) (v4 v5 v6 v7 v8 v9 v10 v11 : Option SV), f.length = c.many.toNat →
    ∃ w4 w5 w6 w7 w8 w9 w10 w11, forGo (.nm 4) (evS G fbody1) (ts.map .int) (fS c sd s0 f v4 v5 v6 v7 v8 v9 v10 v11) = .nx (fS c sd s0 (iterF c shut ts.length f) w4 w5 w6 w7 w8 w9 w10 w11)
  | [], f, v4, v5, v6, v7, v8, v9, v10, v11, _ => ⟨v4, v5, v6, v7, v8, v9, v10, v11, rfl⟩
  | t :: ts, f, v4, v5, v6, v7, v8, v9, v10, v11, hl => by
    obtain ⟨x5, x6, x7, x8, x9, x10, x11, e⟩ := far_roads (G := G) hc hs s0 (c.ways.zipIdx 0) f (some (.val (.int t))) v5 v6 v7 v8 v9 v10 v11 (fun _ z => z) hl
    obtain ⟨w4, w5, w6, w7, w8, w9, w10, w11, ih⟩ := far_rounds hc hs s0 ts (roundF c shut f) (some (.val (.int t))) x5 x6 x7 x8 x9 x10 x11 (by rw [round_len]; exact hl)
    refine ⟨w4, w5, w6, w7, w8, w9, w10, w11, ?_⟩
    have b : bindT (.nm 4) (.int t) (fS c sd s0 f v4 v5 v6 v7 v8 v9 v10 v11) = some (fS c sd s0 f (some (.val (.int t))) v5 v6 v7 v8 v9 v10 v11) := rfl
    rw [List.map_cons, forGo]
    simp only [b]
    rw [← enumD_map wayD 0 c.ways] at e
    have e' : evS G fbody1 (fS c sd s0 f (some (.val (.int t))) v5 v6 v7 v8 v9 v10 v11) = .nx (fS c sd s0 (roundF c shut f) (some (.val (.int t))) x5 x6 x7 x8 x9 x10 x11) := q_seq (q_for (xs := enumD 0 (c.ways.map wayD)) rfl e) q_nil
    rw [e']
    show forGo _ _ _ _ = _
    rw [ih]
    rfl
theorem flat_rep (d : D) : ∀ n : Nat, (List.replicate n [d]).flatten = List.replicate n d
  | 0 => rfl
  | n + 1 => by rw [List.replicate_succ, List.flatten_cons, flat_rep d n, List.replicate_succ]; rfl
theorem law_far_ev {c : Ch} (hc : OkC c) {sd : D} {shut : List Int} (hs : RowOf sd shut) {s0 : Int} (h0 : 0 ≤ s0) (h1 : s0 < c.many) : ∃ o, IsMin c shut s0 c.b o ∧ evB G i__law_far [false, false, false] 12 [encP c, sd, .int s0] = .ok (optD o) := by
  obtain ⟨m, H⟩ := di_ex (shut := shut) (s0 := s0) hc _ _ (Nat.le_refl _) (DI.start h0 h1)
  have hm1 := hc.m1
  have hm2 := hc.m2
  have hb1 := hc.b1
  have hb2 := hc.b2
  refine ⟨_, far_min hc H h0 h1 hb1, ?_⟩
  have il : (initF c s0).length = c.many.toNat := by unfold initF; simp
  have iterl : ∀ (n : Nat) (f : Lb), (iterF c shut n f).length = f.length := fun n => by
    induction n with
    | zero => intro f; rfl
    | succ n ih => intro f; show (iterF c shut n (roundF c shut f)).length = _; rw [ih, round_len]
  obtain ⟨w4, w5, w6, w7, w8, w9, w10, w11, L⟩ := far_rounds (G := G) hc hs s0 ((List.range c.many.toNat).map fun (i : Nat) => (0 : Int) + i) (initF c s0) none none none none none none none none il
  rw [List.length_map, List.length_range] at L
  have e1 : ev G (.bin .mul (.lst (.cons (.k .non) .nil)) (.idx (.b 0) (.k (.int 0)))) (argS [false, false, false] [encP c, sd, .int s0] 12) = .ok (bD (List.replicate c.many.toNat none)) := by
    refine x_bin (a := .lst [.non]) (b := .int c.many) (x_lst (ds := [.non]) rfl (by simp)) rfl ?_
    have k : (decide (0 ≤ c.many) && decide (c.many < 1000000) && decide ([D.non].length * c.many.toNat ≤ 1000000)) = true := by
      rw [decide_eq_true (by omega), decide_eq_true (by omega), decide_eq_true (by simp; omega)]; rfl
    show chk (decide (0 ≤ c.many) && decide (c.many < 1000000) && decide ([D.non].length * c.many.toNat ≤ 1000000)) _ = _
    rw [k, flat_rep]
    unfold bD
    rw [List.map_replicate]
    rfl
  refine q_body (o := .rt (optD (gt (iterF c shut c.many.toNat (initF c s0)) c.b))) rfl (q_seq (st1 := fS c sd s0 (List.replicate c.many.toNat none) none none none none none none none none) (q_asgO rfl e1 rfl) (q_seq (st1 := fS c sd s0 (initF c s0) none none none none none none none none) ?_ (q_seq (st1 := fS c sd s0 (iterF c shut c.many.toNat (initF c s0)) w4 w5 w6 w7 w8 w9 w10 w11) (q_for (xs := rngD 0 c.many.toNat) ?_ ?_) (q_seqR (q_ret rfl (x_idx (a := bD (iterF c shut c.many.toNat (initF c s0))) (b := .int c.b) rfl rfl (idx_bD hb1 ?_)))))))
  · refine (q_setL (ds := (List.replicate c.many.toNat none).map optD) (j := s0) (n := s0.toNat) (d := .int 0) rfl rfl rfl rfl (ixN_ok h0 (by simp; omega))).trans ?_
    unfold initF
    show Out.nx [_, _, _, some (.own (.lst (((List.replicate c.many.toNat none).map optD).set s0.toNat (.int 0)))), _, _, _, _, _, _, _, _] = Out.nx [_, _, _, some (.own (.lst (((List.replicate c.many.toNat none).set s0.toNat (some 0)).map optD))), _, _, _, _, _, _, _, _]
    rw [List.map_set]
    rfl
  · have p62 : (2 : Int) ^ 62 = 4611686018427387904 := by decide
    have k : (decide (-(2 ^ 62) ≤ (0 : Int)) && decide ((0 : Int) < 2 ^ 62) && decide (-(2 ^ 62) ≤ c.many) && decide (c.many < 2 ^ 62)) = true := by
      rw [p62, decide_eq_true (by decide), decide_eq_true (by decide), decide_eq_true (by omega), decide_eq_true (by omega)]; rfl
    show chk (decide (-(2 ^ 62) ≤ (0 : Int)) && decide ((0 : Int) < 2 ^ 62) && decide (-(2 ^ 62) ≤ c.many) && decide (c.many < 2 ^ 62)) (rngD 0 (c.many - 0).toNat) = _
    rw [k, Int.sub_zero]
    rfl
  · rw [rngD_map]
    rw [List.map_map] at L
    exact L
  · rw [iterl, il]; omega
end
end Z

/-! P10: the law's draws. -/
namespace Z
open PySem
theorem eq_nil (q : List Int) : dCmp .eq (iL q) (.lst []) = .ok (.bl q.isEmpty) := by
  have e : (iL q).py = some (.list (q.map .int)) := by
    show (D.lst (q.map .int)).py = _
    rw [D.py, pys_ints]; rfl
  have s : SeqAt.shaped (.list (q.map PyData.int)) = true := by
    unfold SeqAt.shaped
    rw [PyData.canLay0, PyData.depth, (layInts q).1, (layInts q).2]
    rfl
  have d : dEq (iL q) (.lst []) = .ok q.isEmpty := by
    unfold dEq
    simp only [e]
    show chk (SeqAt.shaped (.list (q.map PyData.int)) && SeqAt.shaped (.list [])) _ = _
    rw [s]
    cases q <;> rfl
  show (dEq (iL q) (.lst [])).bind (fun b => R.ok (D.bl b)) = _
  rw [d]; rfl
theorem idx_lst {ds : List D} {i : Int} (h0 : 0 ≤ i) (h1 : i < ds.length) : ∃ d ∈ ds, dIdx (.lst ds) (.int i) = .ok d := by
  refine ⟨ds[i.toNat]'(by omega), List.getElem_mem _, ?_⟩
  show rb (L2.atI ds i) R.ok = _
  unfold L2.atI
  rw [ixN_ok h0 h1]
  show rb (ds[i.toNat]?) R.ok = _
  rw [List.getElem?_eq_getElem (by omega)]
  rfl
theorem mod_ok {i j : Int} (h : 0 < j) : dBin .mod (.int i) (.int j) = .ok (.int (i % j)) := by
  show chk (decide (0 < j)) _ = _
  rw [decide_eq_true h]; rfl
theorem mulK_ok (i : Int) : dBin .mul (.int i) (.int 48271) = .ok (.int (i * 48271)) := by
  have k : ((decide (-(2 ^ 64) < i) && decide (i < 2 ^ 64)) || (decide (-(2 ^ 64) < (48271 : Int)) && decide ((48271 : Int) < 2 ^ 64))) = true := by
    rw [Bool.or_eq_true_iff]; exact .inr (by decide)
  show chk ((decide (-(2 ^ 64) < i) && decide (i < 2 ^ 64)) || (decide (-(2 ^ 64) < (48271 : Int)) && decide ((48271 : Int) < 2 ^ 64))) _ = _
  rw [k]; rfl
section
variable {G : Pg}
theorem cell_ev (ns : List Int) {k : Int} (hk : 0 ≤ k) : ∃ v, evB G i__law_cell_at [false, false] 2 [iL ns, .int k] = .ok (.int v) := by
  have ln : ev G (.blt .len (.cons (.b 0) .nil)) [some (.val (iL ns)), some (.val (.int k))] = .ok (.int ns.length) := x_blt (ds := [iL ns]) rfl (len_lst ns)
  have t1 : evT G (.tv (.cmp .lt (.b 1) (.blt .len (.cons (.b 0) .nil)))) [some (.val (iL ns)), some (.val (.int k))] = .ok (decide (k < (ns.length : Int))) := t_v (x_cmp (a := .int k) (b := .int ns.length) rfl ln rfl)
  have item : ∀ {i : Int}, 0 ≤ i → i < (ns.length : Int) → ∃ v : Int, dIdx (iL ns) (.int i) = .ok (.int v) := fun {i} h0 h1 => by
    obtain ⟨d, hd, e⟩ := idx_lst (ds := ns.map .int) h0 (by simpa using h1)
    obtain ⟨v, _, rfl⟩ := List.mem_map.mp hd
    exact ⟨v, e⟩
  by_cases h : k < (ns.length : Int)
  · obtain ⟨v, e⟩ := item hk h
    rw [decide_eq_true h] at t1
    exact ⟨v, q_body (o := .rt (.int v)) rfl (q_seqR (q_iffT t1 (q_seqR (q_ret rfl (x_idx (a := iL ns) (b := .int k) rfl rfl e)))))⟩
  · rw [decide_eq_false h] at t1
    have t2 : evT G (.tv (.cmp .eq (.b 0) (.lst .nil))) [some (.val (iL ns)), some (.val (.int k))] = .ok ns.isEmpty := t_v (x_cmp (a := iL ns) (b := .lst []) rfl rfl (eq_nil ns))
    cases ns with
    | nil => exact ⟨k * 48271, q_body (o := .rt (.int (k * 48271))) rfl (q_seq (q_iffF t1 q_nil) (q_seqR (q_iffT t2 (q_seqR (q_ret rfl (x_bin (a := .int k) (b := .int 48271) rfl rfl (mulK_ok k)))))))⟩
    | cons n ns =>
      have hl : 0 < ((n :: ns).length : Int) := by simp
      obtain ⟨v, e⟩ := item (Int.emod_nonneg k (by omega)) (Int.emod_lt_of_pos k hl)
      refine ⟨(v + k) * 48271 % 2147483647, q_body (o := .rt (.int ((v + k) * 48271 % 2147483647))) rfl (q_seq (q_iffF t1 q_nil) (q_seq (q_iffF t2 q_nil) (q_seqR (q_ret rfl ?_))))⟩
      exact x_bin (a := .int ((v + k) * 48271)) (b := .int 2147483647) (x_blt (ds := [.int ((v + k) * 48271)]) (l_one (x_bin (a := .int (v + k)) (b := .int 48271) (x_bin (a := .int v) (b := .int k) (x_idx (a := iL (n :: ns)) (b := .int (k % ((n :: ns).length : Int))) rfl (x_bin (a := .int k) (b := .int (n :: ns).length) (x_blt (ds := [.int k]) rfl rfl) ln (mod_ok hl)) e) rfl rfl) rfl (mulK_ok _))) rfl) rfl (mod_ok (by decide))
theorem pick_ev (ns : List Int) {k v : Int} {ds : List D} (hd : ds ≠ []) (h : G.F 201 [iL ns, .int k] = .ok (.int v)) : ∃ d ∈ ds, evB G i__law_pick [false, false, false] 3 [iL ns, .int k, .lst ds] = .ok d := by
  have hl : 0 < (ds.length : Int) := by have := List.length_pos_iff.mpr hd; omega
  obtain ⟨d, h1, e⟩ := idx_lst (ds := ds) (Int.emod_nonneg v (by omega)) (Int.emod_lt_of_pos v hl)
  exact ⟨d, h1, q_body (o := .rt d) rfl (q_seqR (q_ret rfl (x_idx (a := .lst ds) (b := .int (v % (ds.length : Int))) rfl (x_bin (a := .int v) (b := .int ds.length) (x_blt (ds := [.int v]) (l_one (x_call (ds := [iL ns, .int k]) rfl h)) rfl) (x_blt (ds := [.lst ds]) rfl rfl) (mod_ok hl)) e)))⟩
end
end Z

/-! P11: the law's map. -/
namespace Z
open PySem
def toW : List Int → Way
  | [a, b, l] => (a, b, l)
  | _ => (0, 0, 0)
theorem toW_row {r : List Int} (h : r.length = 3) : rowW (toW r) = r := by
  match r, h with
  | [a, b, l], _ => rfl
theorem rowW_toW (w : Way) : toW (rowW w) = w := rfl
def OkW (m : Int) (w : Way) : Prop := 0 ≤ w.1 ∧ w.1 < w.2.1 ∧ w.2.1 < m ∧ 1 ≤ w.2.2 ∧ w.2.2 ≤ 9
def sortW (ws : List Way) : List Way := (isort leLex (ddp (ws.map rowW))).map toW
theorem sortW_mem {ws : List Way} {w : Way} : w ∈ sortW ws ↔ w ∈ ws := by
  unfold sortW
  rw [List.mem_map]
  constructor
  · rintro ⟨r, h1, rfl⟩
    have h2 := ddp_mem.mp ((isort_perm leLex _).mem_iff.mp h1)
    obtain ⟨u, h3, rfl⟩ := List.mem_map.mp h2
    rw [rowW_toW]; exact h3
  · intro h
    exact ⟨rowW w, (isort_perm leLex _).mem_iff.mpr (ddp_mem.mpr (List.mem_map.mpr ⟨w, h, rfl⟩)), rowW_toW w⟩
theorem sortW_row (ws : List Way) : (sortW ws).map rowW = isort leLex (ddp (ws.map rowW)) := by
  unfold sortW
  rw [List.map_map]
  refine (List.map_congr_left fun r hr => ?_).trans (List.map_id _)
  have h2 := ddp_mem.mp ((isort_perm leLex _).mem_iff.mp hr)
  obtain ⟨u, h3, rfl⟩ := List.mem_map.mp h2
  rfl
theorem ddp_len : ∀ l : List (List Int), (ddp l).length ≤ l.length
  | [] => Nat.le_refl _
  | x :: l => by
    have := ddp_len l
    unfold ddp
    split
    · simp; omega
    · simp; omega
theorem sortW_len (ws : List Way) : (sortW ws).length ≤ ws.length := by
  unfold sortW
  rw [List.length_map, (isort_perm leLex _).length_eq]
  exact Nat.le_trans (ddp_len _) (by simp)
theorem sortW_up (ws : List Way) : (sortW ws).Pairwise fun u v => ltW u v = true := by
  have h1 := isort_sorted leLex_tr leLex_tot (ddp (ws.map rowW))
  have h2 : (isort leLex (ddp (ws.map rowW))).Nodup := (isort_perm leLex _).nodup_iff.mpr (ddp_nodup _)
  have h3 : (isort leLex (ddp (ws.map rowW))).Pairwise fun u v => HT.lexLt u v = true := by
    refine (h1.and h2).imp fun {a b} z => ?_
    obtain ⟨z1, z2⟩ := z
    cases e : HT.lexLt a b with
    | true => rfl
    | false =>
      have : leLex b a = true := by unfold leLex; rw [e]; rfl
      exact absurd (leLex_an a b z1 this) z2
  rw [← sortW_row, List.pairwise_map] at h3
  exact h3
theorem emod_ne {x d p : Int} (hp : 2 ≤ p) (h0 : 0 ≤ x) (h1 : x < p) : (x + 1 + d % (p - 1)) % p ≠ x ∧ 0 ≤ (x + 1 + d % (p - 1)) % p ∧ (x + 1 + d % (p - 1)) % p < p := by
  have a1 := Int.emod_nonneg d (show p - 1 ≠ 0 by omega)
  have a2 := Int.emod_lt_of_pos d (show 0 < p - 1 by omega)
  generalize d % (p - 1) = y at *
  refine ⟨fun z => ?_, Int.emod_nonneg _ (by omega), Int.emod_lt_of_pos _ (by omega)⟩
  by_cases h : x + 1 + y < p
  · rw [Int.emod_eq_of_lt (by omega) h] at z; omega
  · have : (x + 1 + y) % p = x + 1 + y - p := by
      have e : x + 1 + y = (x + 1 + y - p) + p := by omega
      rw [e, Int.add_emod_right, Int.emod_eq_of_lt (by omega) (by omega)]
      omega
    rw [this] at z
    omega
theorem mul3_ok (i : Int) : dBin .mul (.int 3) (.int i) = .ok (.int (3 * i)) := by
  have k : ((decide (-(2 ^ 64) < (3 : Int)) && decide ((3 : Int) < 2 ^ 64)) || (decide (-(2 ^ 64) < i) && decide (i < 2 ^ 64))) = true := by
    rw [Bool.or_eq_true_iff]; exact .inl (by decide)
  show chk ((decide (-(2 ^ 64) < (3 : Int)) && decide ((3 : Int) < 2 ^ 64)) || (decide (-(2 ^ 64) < i) && decide (i < 2 ^ 64))) _ = _
  rw [k]; rfl
section
variable {G : Pg}
theorem i_rng {st : Sl} {x y : Ex} {i j : Int} (hx : ev G x st = .ok (.int i)) (hy : ev G y st = .ok (.int j)) (hi : -1000000 ≤ i ∧ i ≤ 1000000) (hj : -1000000 ≤ j ∧ j ≤ 1000000) : evI G (.sRng x y) st = .ok (rngD i (j - i).toNat) := by
  have p62 : (2 : Int) ^ 62 = 4611686018427387904 := by decide
  have k : (decide (-(2 ^ 62) ≤ i) && decide (i < 2 ^ 62) && decide (-(2 ^ 62) ≤ j) && decide (j < 2 ^ 62)) = true := by
    rw [p62, decide_eq_true (by omega), decide_eq_true (by omega), decide_eq_true (by omega), decide_eq_true (by omega)]; rfl
  rw [evI]
  simp only [hx, hy, R.bind, k]
  rfl
theorem cellE {ns : List Int} {cl : Int → Int} (hc : ∀ k, 0 ≤ k → G.F 201 [iL ns, .int k] = .ok (.int (cl k))) {st : Sl} {e : Ex} {k : Int} (h0 : getV st 0 = .ok (iL ns)) (he : ev G e st = .ok (.int k)) (hk : 0 ≤ k) : ev G (.blt .int (.cons (.call 201 (.cons (.v 0) (.cons e .nil))) .nil)) st = .ok (.int (cl k)) :=
  x_blt (ds := [.int (cl k)]) (l_one (x_call (ds := [iL ns, .int k]) (l_cons h0 (l_one he)) (hc k hk))) rfl
abbrev mbody : Sx := .seq (.asg (.nm 9) (.bin .mod (.blt .int (.cons (.call 201 (.cons (.v 0) (.cons (.bin .add (.bin .add (.b 1) (.k (.int 4))) (.bin .mul (.k (.int 3)) (.b 6))) .nil))) .nil)) (.b 4))) (.seq (.asg (.nm 10) (.bin .mod (.blt .int (.cons (.bin .add (.bin .add (.b 9) (.k (.int 1))) (.bin .mod (.blt .int (.cons (.call 201 (.cons (.v 0) (.cons (.bin .add (.bin .add (.b 1) (.k (.int 5))) (.bin .mul (.k (.int 3)) (.b 6))) .nil))) .nil)) (.bin .sub (.b 4) (.k (.int 1))))) .nil)) (.b 4))) (.seq (.app 5 (.tup (.cons (.blt .min2 (.cons (.b 9) (.cons (.b 10) .nil))) (.cons (.blt .max2 (.cons (.b 9) (.cons (.b 10) .nil))) (.cons (.bin .add (.k (.int 1)) (.bin .mod (.blt .int (.cons (.call 201 (.cons (.v 0) (.cons (.bin .add (.bin .add (.b 1) (.k (.int 6))) (.bin .mul (.k (.int 3)) (.b 6))) .nil))) .nil)) (.k (.int 9)))) .nil))))) .nil))
def mS (ns : List Int) (at_ mp mr pl : Int) (acc : List Way) (v6 v9 v10 : Option SV) : Sl := [some (.val (iL ns)), some (.val (.int at_)), some (.val (.int mp)), some (.val (.int mr)), some (.val (.int pl)), some (.own (.lst (acc.map wayD))), v6, none, none, v9, v10]
theorem map_turn {ns : List Int} {cl : Int → Int} (hc : ∀ k, 0 ≤ k → G.F 201 [iL ns, .int k] = .ok (.int (cl k))) {at_ mp mr pl : Int} (ha : 0 ≤ at_) (hp : 2 ≤ pl) (acc : List Way) (hl : acc.length ≤ 100) {i : Int} (hi : 0 ≤ i) (v9 v10 : Option SV) :
    ∃ w, OkW pl w ∧ ∃ w9 w10, evS G mbody (mS ns at_ mp mr pl acc (some (.val (.int i))) v9 v10) = .nx (mS ns at_ mp mr pl (acc ++ [w]) (some (.val (.int i))) w9 w10) := by
  have kE : ∀ (q : Int) (acc : List Way) (v9 v10 : Option SV), ev G (.bin .add (.bin .add (.b 1) (.k (.int q))) (.bin .mul (.k (.int 3)) (.b 6))) (mS ns at_ mp mr pl acc (some (.val (.int i))) v9 v10) = .ok (.int (at_ + q + 3 * i)) := fun q acc v9 v10 => x_bin (a := .int (at_ + q)) (b := .int (3 * i)) rfl (x_bin (a := .int 3) (b := .int i) rfl rfl (mul3_ok i)) rfl
  generalize e1 : cl (at_ + 4 + 3 * i) % pl = one
  have o0 : 0 ≤ one := by rw [← e1]; exact Int.emod_nonneg _ (by omega)
  have o1 : one < pl := by rw [← e1]; exact Int.emod_lt_of_pos _ (by omega)
  obtain ⟨n1, n2, n3⟩ := emod_ne (d := cl (at_ + 5 + 3 * i)) hp o0 o1
  generalize e2 : (one + 1 + cl (at_ + 5 + 3 * i) % (pl - 1)) % pl = oth at n1 n2 n3
  have l0 := Int.emod_nonneg (cl (at_ + 6 + 3 * i)) (show (9 : Int) ≠ 0 by decide)
  have l1 := Int.emod_lt_of_pos (cl (at_ + 6 + 3 * i)) (show (0 : Int) < 9 by decide)
  refine ⟨((if oth < one then oth else one), (if oth > one then oth else one), 1 + cl (at_ + 6 + 3 * i) % 9), ⟨?_, ?_, ?_, by show 1 ≤ 1 + cl (at_ + 6 + 3 * i) % 9; omega, by show 1 + cl (at_ + 6 + 3 * i) % 9 ≤ 9; omega⟩, some (.val (.int one)), some (.val (.int oth)), ?_⟩
  · show 0 ≤ (if oth < one then oth else one); split <;> omega
  · show (if oth < one then oth else one) < (if oth > one then oth else one); split <;> split <;> omega
  · show (if oth > one then oth else one) < pl; split <;> omega
  · have s1 : evS G (.asg (.nm 9) (.bin .mod (.blt .int (.cons (.call 201 (.cons (.v 0) (.cons (.bin .add (.bin .add (.b 1) (.k (.int 4))) (.bin .mul (.k (.int 3)) (.b 6))) .nil))) .nil)) (.b 4))) (mS ns at_ mp mr pl acc (some (.val (.int i))) v9 v10) = .nx (mS ns at_ mp mr pl acc (some (.val (.int i))) (some (.val (.int one))) v10) :=
      q_asg (d := .int one) rfl (x_bin (a := .int (cl (at_ + 4 + 3 * i))) (b := .int pl) (cellE hc rfl (kE 4 acc v9 v10) (by omega)) rfl (by rw [mod_ok (by omega), e1])) rfl
    have s2 : evS G (.asg (.nm 10) (.bin .mod (.blt .int (.cons (.bin .add (.bin .add (.b 9) (.k (.int 1))) (.bin .mod (.blt .int (.cons (.call 201 (.cons (.v 0) (.cons (.bin .add (.bin .add (.b 1) (.k (.int 5))) (.bin .mul (.k (.int 3)) (.b 6))) .nil))) .nil)) (.bin .sub (.b 4) (.k (.int 1))))) .nil)) (.b 4))) (mS ns at_ mp mr pl acc (some (.val (.int i))) (some (.val (.int one))) v10) = .nx (mS ns at_ mp mr pl acc (some (.val (.int i))) (some (.val (.int one))) (some (.val (.int oth)))) :=
      q_asg (d := .int oth) rfl (x_bin (a := .int (one + 1 + cl (at_ + 5 + 3 * i) % (pl - 1))) (b := .int pl) (x_blt (ds := [.int (one + 1 + cl (at_ + 5 + 3 * i) % (pl - 1))]) (l_one (x_bin (a := .int (one + 1)) (b := .int (cl (at_ + 5 + 3 * i) % (pl - 1))) rfl (x_bin (a := .int (cl (at_ + 5 + 3 * i))) (b := .int (pl - 1)) (cellE hc rfl (kE 5 acc _ v10) (by omega)) rfl (mod_ok (by omega))) rfl)) rfl) rfl (by rw [mod_ok (by omega), e2])) rfl
    refine q_seq s1 (q_seq s2 ((q_seq (q_app (ds := acc.map wayD) (d := wayD ((if oth < one then oth else one), (if oth > one then oth else one), 1 + cl (at_ + 6 + 3 * i) % 9)) rfl rfl (x_tup (l_cons rfl (l_cons rfl (l_one (x_bin (a := .int 1) (b := .int (cl (at_ + 6 + 3 * i) % 9)) rfl (x_bin (a := .int (cl (at_ + 6 + 3 * i))) (b := .int 9) (cellE hc rfl (kE 6 acc _ _) (by omega)) rfl (mod_ok (by decide))) rfl)))) (by simp)) (by simp; omega)) q_nil).trans ?_))
    show Out.nx [_, _, _, _, _, some (.own (.lst (acc.map wayD ++ [_]))), _, _, _, _, _] = Out.nx [_, _, _, _, _, some (.own (.lst ((acc ++ [_]).map wayD))), _, _, _, _, _]
    rw [List.map_append]
    rfl
theorem map_loop {ns : List Int} {cl : Int → Int} (hc : ∀ k, 0 ≤ k → G.F 201 [iL ns, .int k] = .ok (.int (cl k))) {at_ mp mr pl : Int} (ha : 0 ≤ at_) (hp : 2 ≤ pl) : ∀ (is : List Int) (acc : List Way) (v6 v9 v10 : Option SV), (∀ i ∈ is, 0 ≤ i) → (∀ w ∈ acc, OkW pl w) → acc.length + is.length ≤ 100 →
    ∃ ws, (∀ w ∈ ws, OkW pl w) ∧ ws.length = acc.length + is.length ∧ ∃ w6 w9 w10, forGo (.nm 6) (evS G mbody) (is.map .int) (mS ns at_ mp mr pl acc v6 v9 v10) = .nx (mS ns at_ mp mr pl ws w6 w9 w10)
  | [], acc, v6, v9, v10, _, ho, _ => ⟨acc, ho, rfl, v6, v9, v10, rfl⟩
  | i :: is, acc, v6, v9, v10, hi, ho, hl => by
    obtain ⟨w, ow, x9, x10, e⟩ := map_turn hc (mp := mp) (mr := mr) ha hp acc (by omega) (hi i List.mem_cons_self) v9 v10
    obtain ⟨ws, h1, h2, w6, w9, w10, ih⟩ := map_loop hc (mp := mp) (mr := mr) ha hp is (acc ++ [w]) (some (.val (.int i))) x9 x10 (fun x hx => hi x (List.mem_cons_of_mem _ hx)) (fun x hx => by
      rcases List.mem_append.mp hx with z | z
      · exact ho x z
      · simp at z; rw [z]; exact ow) (by simp at hl ⊢; omega)
    refine ⟨ws, h1, by rw [h2]; simp; omega, w6, w9, w10, ?_⟩
    have b : bindT (.nm 6) (.int i) (mS ns at_ mp mr pl acc v6 v9 v10) = some (mS ns at_ mp mr pl acc (some (.val (.int i))) v9 v10) := rfl
    rw [List.map_cons, forGo]
    simp only [b, e]
    exact ih
theorem map_rows (ws : List Way) : ws.map wayD = (ws.map rowW).map rowD := by rw [List.map_map]; rfl
theorem law_map_ev (ns : List Int) (hcell : ∀ k, 0 ≤ k → ∃ v, G.F 201 [iL ns, .int k] = .ok (.int v)) {at_ mp mr : Int} (ha : 0 ≤ at_) (hmp : 2 ≤ mp ∧ mp ≤ 6) (hmr : 1 ≤ mr ∧ mr ≤ 8) : ∃ c, OkC c ∧ c.limit ≤ 2 ∧ c.many ≤ mp ∧ c.ways.length ≤ mr ∧ evB G i__law_map [false, false, false, false] 11 [iL ns, .int at_, .int mp, .int mr] = .ok (encP c) := by
  obtain ⟨cl, hc⟩ : ∃ cl : Int → Int, ∀ k, 0 ≤ k → G.F 201 [iL ns, .int k] = .ok (.int (cl k)) := by
    refine ⟨fun k => if h : 0 ≤ k then Classical.choose (hcell k h) else 0, fun k hk => ?_⟩
    simp only [hk, dite_true]
    exact Classical.choose_spec (hcell k hk)
  have q0 := Int.emod_nonneg (cl at_) (show mp - 1 ≠ 0 by omega)
  have q1 := Int.emod_lt_of_pos (cl at_) (show 0 < mp - 1 by omega)
  generalize ep : 2 + cl at_ % (mp - 1) = pl
  have hp : 2 ≤ pl := by omega
  have r0 := Int.emod_nonneg (cl (at_ + 1)) (show mr ≠ 0 by omega)
  have r1 := Int.emod_lt_of_pos (cl (at_ + 1)) (show 0 < mr by omega)
  generalize en : 1 + cl (at_ + 1) % mr = nn
  obtain ⟨ws, h1, h2, w6, w9, w10, L⟩ := map_loop hc (mp := mp) (mr := mr) ha hp ((List.range nn.toNat).map fun (i : Nat) => (0 : Int) + i) [] none none none (fun i hi => by obtain ⟨j, _, rfl⟩ := List.mem_map.mp hi; omega) (fun w hw => nomatch hw) (by simp; omega)
  have hwl : ws.length = nn.toNat := by rw [h2]; simp
  have b0 := Int.emod_nonneg (cl (at_ + 2)) (show pl ≠ 0 by omega)
  have b1 := Int.emod_lt_of_pos (cl (at_ + 2)) (show 0 < pl by omega)
  generalize eb : cl (at_ + 2) % pl = bg at b0 b1
  obtain ⟨g1, g2, g3⟩ := emod_ne (d := cl (at_ + 3)) hp b0 b1
  generalize eg : (bg + 1 + cl (at_ + 3) % (pl - 1)) % pl = gl at g1 g2 g3
  have m0 := Int.emod_nonneg (cl (at_ + 30)) (show (3 : Int) ≠ 0 by decide)
  have m1 := Int.emod_lt_of_pos (cl (at_ + 30)) (show (0 : Int) < 3 by decide)
  have sl := sortW_len ws
  have ne : 1 ≤ (sortW ws).length := by
    cases e : ws with
    | nil => rw [e] at hwl; simp at hwl; omega
    | cons w r =>
      have : w ∈ sortW (w :: r) := sortW_mem.mpr List.mem_cons_self
      exact List.length_pos_of_mem this
  refine ⟨⟨pl, sortW ws, bg, gl, cl (at_ + 30) % 3⟩, ⟨hp, by show pl ≤ 6; omega, ne, by show (sortW ws).length ≤ 8; omega, fun w hw => h1 w (sortW_mem.mp hw), sortW_up ws, b0, b1, g2, g3, fun z => g1 z.symm, m0, by show cl (at_ + 30) % 3 ≤ 3; omega⟩, by show cl (at_ + 30) % 3 ≤ 2; omega, by show pl ≤ mp; omega, by show ((sortW ws).length : Int) ≤ mr; omega, ?_⟩
  have e0 : ∀ st : Sl, getV st 0 = .ok (iL ns) → getV st 1 = .ok (.int at_) → getB st 1 = .ok (.int at_) → ∀ q : Int, 0 ≤ q → ev G (.blt .int (.cons (.call 201 (.cons (.v 0) (.cons (.bin .add (.b 1) (.k (.int q))) .nil))) .nil)) st = .ok (.int (cl (at_ + q))) := fun st h0 _ h1 q hq => cellE hc h0 (x_bin (a := .int at_) (b := .int q) h1 rfl rfl) (by omega)
  have s1 : evS G (.par [(4, false), (5, true)] (.cons (.bin .add (.k (.int 2)) (.bin .mod (.blt .int (.cons (.call 201 (.cons (.v 0) (.cons (.v 1) .nil))) .nil)) (.bin .sub (.b 2) (.k (.int 1))))) (.cons (.lst .nil) .nil))) (argS [false, false, false, false] [iL ns, .int at_, .int mp, .int mr] 11) = .nx (mS ns at_ mp mr pl [] none none none) :=
    q_par (ds := [.int pl, .lst []]) rfl (l_cons (x_bin (a := .int 2) (b := .int (cl at_ % (mp - 1))) rfl (x_bin (a := .int (cl at_)) (b := .int (mp - 1)) (cellE hc rfl rfl ha) rfl (mod_ok (by omega))) (by show R.ok (D.int (2 + cl at_ % (mp - 1))) = _; rw [ep])) rfl) rfl
  have s2 : evI G (.sRng (.k (.int 0)) (.bin .add (.k (.int 1)) (.bin .mod (.blt .int (.cons (.call 201 (.cons (.v 0) (.cons (.bin .add (.b 1) (.k (.int 1))) .nil))) .nil)) (.b 3)))) (mS ns at_ mp mr pl [] none none none) = .ok (rngD 0 nn.toNat) := by
    have b : ev G (.bin .add (.k (.int 1)) (.bin .mod (.blt .int (.cons (.call 201 (.cons (.v 0) (.cons (.bin .add (.b 1) (.k (.int 1))) .nil))) .nil)) (.b 3))) (mS ns at_ mp mr pl [] none none none) = .ok (.int nn) := x_bin (a := .int 1) (b := .int (cl (at_ + 1) % mr)) rfl (x_bin (a := .int (cl (at_ + 1))) (b := .int mr) (e0 _ rfl rfl rfl 1 (by decide)) rfl (mod_ok (by omega))) (by show R.ok (D.int (1 + cl (at_ + 1) % mr)) = _; rw [en])
    have r := i_rng (G := G) (st := mS ns at_ mp mr pl [] none none none) (x := .k (.int 0)) (i := 0) rfl b ⟨by omega, by omega⟩ ⟨by omega, by omega⟩
    rw [Int.sub_zero] at r
    exact r
  have s3 : forGo (.nm 6) (evS G mbody) (rngD 0 nn.toNat) (mS ns at_ mp mr pl [] none none none) = .nx (mS ns at_ mp mr pl ws w6 w9 w10) := by
    rw [rngD_map]
    rw [List.map_map] at L
    exact L
  let st7 : Sl := [some (.val (iL ns)), some (.val (.int at_)), some (.val (.int mp)), some (.val (.int mr)), some (.val (.int pl)), some (.own (.lst (ws.map wayD))), w6, some (.val (.int bg)), none, w9, w10]
  let st8 : Sl := [some (.val (iL ns)), some (.val (.int at_)), some (.val (.int mp)), some (.val (.int mr)), some (.val (.int pl)), some (.own (.lst (ws.map wayD))), w6, some (.val (.int bg)), some (.val (.int gl)), w9, w10]
  have s7 : evS G (.asg (.nm 7) (.bin .mod (.blt .int (.cons (.call 201 (.cons (.v 0) (.cons (.bin .add (.b 1) (.k (.int 2))) .nil))) .nil)) (.b 4))) (mS ns at_ mp mr pl ws w6 w9 w10) = .nx st7 := q_asg (d := .int bg) rfl (x_bin (a := .int (cl (at_ + 2))) (b := .int pl) (e0 _ rfl rfl rfl 2 (by decide)) rfl (by rw [mod_ok (by omega), eb])) rfl
  have s8 : evS G (.asg (.nm 8) (.bin .mod (.blt .int (.cons (.bin .add (.bin .add (.b 7) (.k (.int 1))) (.bin .mod (.blt .int (.cons (.call 201 (.cons (.v 0) (.cons (.bin .add (.b 1) (.k (.int 3))) .nil))) .nil)) (.bin .sub (.b 4) (.k (.int 1))))) .nil)) (.b 4))) st7 = .nx st8 :=
    q_asg (d := .int gl) rfl (x_bin (a := .int (bg + 1 + cl (at_ + 3) % (pl - 1))) (b := .int pl) (x_blt (ds := [.int (bg + 1 + cl (at_ + 3) % (pl - 1))]) (l_one (x_bin (a := .int (bg + 1)) (b := .int (cl (at_ + 3) % (pl - 1))) rfl (x_bin (a := .int (cl (at_ + 3))) (b := .int (pl - 1)) (e0 _ rfl rfl rfl 3 (by decide)) rfl (mod_ok (by omega))) rfl)) rfl) rfl (by rw [mod_ok (by omega), eg])) rfl
  have sset : dBlt G .sset [.lst (ws.map wayD)] = .ok (.lst ((sortW ws).map wayD)) := by
    show (rb (D.rows (ws.map wayD)) fun rs => chk (decide (rs.length < 64) && rs.all okRow) (D.lst ((isort leLex (ddp rs)).map rowD))) = _
    rw [map_rows ws, rows_map]
    have k : (decide ((ws.map rowW).length < 64) && (ws.map rowW).all okRow) = true := by
      rw [decide_eq_true (by simp; omega), Bool.true_and, List.all_eq_true]
      intro r hr
      obtain ⟨w, hw, rfl⟩ := List.mem_map.mp hr
      obtain ⟨k1, k2, k3, k4, k5⟩ := h1 w hw
      unfold okRow rowW
      have z1 : 0 ≤ w.1 ∧ w.1 < 64 := by omega
      have z2 : 0 ≤ w.2.1 ∧ w.2.1 < 64 := by omega
      have z3 : 0 ≤ w.2.2 ∧ w.2.2 < 64 := by omega
      simp [z1, z2, z3]
    show chk (decide ((ws.map rowW).length < 64) && (ws.map rowW).all okRow) _ = _
    rw [k, map_rows (sortW ws), sortW_row]
    rfl
  refine q_body (o := .rt (encP ⟨pl, sortW ws, bg, gl, cl (at_ + 30) % 3⟩)) rfl (q_seq s1 (q_seq (q_for s2 s3) (q_seq s7 (q_seq s8 (q_seqR (q_ret rfl (x_tup (ds := [.int pl, .tup ((sortW ws).map wayD), .tup [.int bg, .int gl], .int (cl (at_ + 30) % 3)]) (l_cons rfl (l_cons (x_blt (ds := [.lst ((sortW ws).map wayD)]) (l_one (x_blt (ds := [.lst (ws.map wayD)]) rfl sset)) rfl) (l_cons rfl (l_one (x_bin (a := .int (cl (at_ + 30))) (b := .int 3) (e0 _ rfl rfl rfl 30 (by decide)) rfl (mod_ok (by decide))))))) (by simp))))))))
end
end Z

/-! P12: the states that come about are states. -/
namespace Z
open PySem
theorem zi_ge : ∀ {ws : List Way} {n : Nat} {q : Way × Nat}, q ∈ ws.zipIdx n → n ≤ q.2
  | w :: ws, n, q, h => by
    rw [List.zipIdx_cons] at h
    rcases List.mem_cons.mp h with z | z
    · rw [z]; exact Nat.le_refl _
    · have := zi_ge z; omega
theorem zi_pw : ∀ (ws : List Way) (n : Nat), (ws.zipIdx n).Pairwise fun a b => a.2 < b.2
  | [], n => List.Pairwise.nil
  | w :: ws, n => by
    rw [List.zipIdx_cons]
    exact List.pairwise_cons.mpr ⟨fun q hq => by have := zi_ge hq; show n < q.2; omega, zi_pw ws (n + 1)⟩
theorem rAt_up (p : Int) (ws : List Way) : (rAt p ws).Pairwise (· < ·) := by
  unfold rAt
  rw [List.pairwise_map]
  exact ((zi_pw ws 0).filter _).imp fun h => by omega
theorem rAt_in {p : Int} {ws : List Way} {r : Int} (h : r ∈ rAt p ws) : 0 ≤ r ∧ r < ws.length := by
  obtain ⟨w, h0, h1, _⟩ := rAt_mem.mp h
  exact ⟨h0, (atI_bd h0 h1).1⟩
theorem up_nodup {xs : List Int} (h : xs.Pairwise (· < ·)) : xs.Nodup := h.imp fun h => by omega
theorem isort_up {xs : List Int} (nd : xs.Nodup) : (isort leI xs).Pairwise (· < ·) := by
  have nd2 : (isort leI xs).Nodup := (isort_perm leI xs).nodup_iff.mpr nd
  refine ((isort_sorted leI_tr leI_tot xs).and nd2).imp fun {a b} z => ?_
  obtain ⟨z1, z2⟩ := z
  have z1 : a ≤ b := of_decide_eq_true z1
  have z2 : a ≠ b := z2
  omega
theorem pAll_few {most : Int} (h0 : 0 ≤ most) : ∀ (rs : List Int) (f : List (List Int)), (∀ s ∈ f, (s.length : Int) ≤ most) → ∀ s ∈ rs.foldl (pStep most) f, (s.length : Int) ≤ most
  | [], f, h, s, hs => h s hs
  | r :: rs, f, h, s, hs => by
    refine pAll_few h0 rs (pStep most f r) (fun t ht => ?_) s hs
    unfold pStep at ht
    rcases List.mem_append.mp ht with z | z
    · exact h t z
    · obtain ⟨u, hu, rfl⟩ := List.mem_map.mp z
      have := of_decide_eq_true (List.mem_filter.mp hu).2
      simp
      omega
theorem pts_few {rs : List Int} {most : Int} (h0 : 0 ≤ most) {s : List Int} (h : s ∈ pts rs most) : (s.length : Int) ≤ most :=
  pAll_few h0 rs [[]] (by intro t ht; simp at ht; subst ht; simpa using h0) s ((isort_perm leLen _).mem_iff.mp h)
theorem pAll_keep {most : Int} : ∀ (rs : List Int) (f : List (List Int)) {s : List Int}, s ∈ f → s ∈ rs.foldl (pStep most) f
  | [], f, s, h => h
  | r :: rs, f, s, h => pAll_keep rs _ (List.mem_append_left _ h)
theorem pts_ne (rs : List Int) (most : Int) : pts rs most ≠ [] := fun z => by
  have : ([] : List Int) ∈ pts rs most := (isort_perm leLen _).mem_iff.mpr (pAll_keep rs [[]] (by simp))
  rw [z] at this
  cases this
theorem seen_ne (c : Ch) (p : Int) (free shut : List Int) : seen c p free shut ≠ [] := fun z => pts_ne _ _ (List.map_eq_nil_iff.mp z)
theorem fresh_up (c : Ch) (p : Int) (free shut : List Int) : (fresh c p free shut).Pairwise (· < ·) := (rAt_up p c.ways).filter _
theorem fresh_mem {c : Ch} {p r : Int} {free shut : List Int} : r ∈ fresh c p free shut ↔ r ∈ rAt p c.ways ∧ r ∉ free ∧ r ∉ shut := by
  unfold fresh
  rw [List.mem_filter]
  simp
theorem sortI_mem {xs : List Int} {x : Int} : x ∈ isort leI xs ↔ x ∈ xs := (isort_perm leI xs).mem_iff
theorem seen_ok {c : Ch} (hc : OkC c) {p : Int} {free shut : List Int} (p0 : 0 ≤ p) (p1 : p < c.many) (hf : OkR c free) (hs : OkR c shut) (few : (shut.length : Int) ≤ c.limit) (dis : ∀ r ∈ free, r ∉ shut) {s : St} (h : s ∈ seen c p free shut) : OkS c s := by
  obtain ⟨some1, h1, rfl⟩ := List.mem_map.mp h
  have sub := pts_sub h1
  have few1 := pts_few (by omega) h1
  have nd1 : some1.Nodup := up_nodup ((fresh_up c p free shut).sublist sub)
  have inf : ∀ r ∈ some1, r ∈ fresh c p free shut := fun r hr => sub.mem hr
  refine ⟨p0, p1, ⟨isort_up ?_, fun x hx => ?_⟩, ⟨isort_up ?_, fun x hx => ?_⟩, ?_, fun r hr hr' => ?_, fun r hr => ?_⟩
  · refine List.nodup_append.mpr ⟨up_nodup hf.up, up_nodup ((fresh_up c p free shut).filter _), fun x hx y hy => ?_⟩
    have := (fresh_mem.mp (List.mem_filter.mp hy).1).2.1
    intro z
    exact this (z ▸ hx)
  · rcases List.mem_append.mp (sortI_mem.mp hx) with z | z
    · exact hf.inn x z
    · exact rAt_in (fresh_mem.mp (List.mem_filter.mp z).1).1
  · refine List.nodup_append.mpr ⟨up_nodup hs.up, nd1, fun x hx y hy => ?_⟩
    have := (fresh_mem.mp (inf y hy)).2.2
    intro z
    exact this (z ▸ hx)
  · rcases List.mem_append.mp (sortI_mem.mp hx) with z | z
    · exact hs.inn x z
    · exact rAt_in (fresh_mem.mp (inf x z)).1
  · show ((isort leI (shut ++ some1)).length : Int) ≤ c.limit
    rw [(isort_perm leI _).length_eq, List.length_append]
    push_cast
    omega
  · have a := sortI_mem.mp (show r ∈ isort leI (free ++ (fresh c p free shut).filter fun r => !decide (r ∈ some1)) from hr)
    have b := sortI_mem.mp (show r ∈ isort leI (shut ++ some1) from hr')
    rcases List.mem_append.mp a with z | z
    · rcases List.mem_append.mp b with y | y
      · exact dis r z y
      · exact (fresh_mem.mp (inf r y)).2.1 z
    · obtain ⟨z1, z2⟩ := List.mem_filter.mp z
      rcases List.mem_append.mp b with y | y
      · exact (fresh_mem.mp z1).2.2 y
      · simp at z2; exact z2 y
  · show r ∈ isort leI (free ++ (fresh c p free shut).filter fun r => !decide (r ∈ some1)) ∨ r ∈ isort leI (shut ++ some1)
    rw [sortI_mem, sortI_mem, List.mem_append, List.mem_append, List.mem_filter]
    by_cases z1 : r ∈ free
    · exact .inl (.inl z1)
    · by_cases z2 : r ∈ shut
      · exact .inr (.inl z2)
      · have z3 := fresh_mem.mpr ⟨hr, z1, z2⟩
        by_cases z4 : r ∈ some1
        · exact .inr (.inr z4)
        · exact .inl (.inr ⟨z3, by simpa using z4⟩)
theorem okR_nil (c : Ch) : OkR c [] := ⟨List.Pairwise.nil, fun x h => nomatch h⟩
theorem first_ok {c : Ch} (hc : OkC c) {s : St} (h : s ∈ seen c c.a [] []) : OkS c s := seen_ok hc hc.a1 hc.a2 (okR_nil c) (okR_nil c) (by simpa using hc.k1) (fun r hr => nomatch hr) h
theorem oEnd_in {c : Ch} (hc : OkC c) {r p : Int} {w : Way} (h0 : 0 ≤ r) (h1 : L2.atI c.ways r = some w) : 0 ≤ oEnd w p ∧ oEnd w p < c.many := by
  obtain ⟨w1, w2, w3, _⟩ := hc.w w (atI_bd h0 h1).2
  unfold oEnd
  split <;> omega
theorem after_ok {c : Ch} (hc : OkC c) {s : St} (hs : OkS c s) {r : Int} {w : Way} (h0 : 0 ≤ r) (h1 : L2.atI c.ways r = some w) {t : St} (h : t ∈ seen c (oEnd w s.1) s.2.1 s.2.2) : OkS c t :=
  let ⟨a, b⟩ := oEnd_in hc (p := s.1) h0 h1
  seen_ok hc a b hs.free hs.shut hs.few hs.dis h
theorem end_eq {w : Way} {p : Int} (h : tch p w = true) : w.1 + w.2.1 - p = oEnd w p := by
  unfold oEnd
  rcases tch_cases h with z | z
  · rw [if_pos z]; omega
  · by_cases y : p = w.1
    · rw [if_pos y]; omega
    · rw [if_neg y]; omega
/-! ### worlds -/
def allR (c : Ch) : List Int := (List.range c.ways.length).map fun (i : Nat) => (0 : Int) + i
theorem allR_up (c : Ch) : (allR c).Pairwise (· < ·) := by
  unfold allR
  rw [List.pairwise_map]
  exact List.pairwise_lt_range.imp fun h => by omega
theorem allR_in {c : Ch} {r : Int} (h : r ∈ allR c) : 0 ≤ r ∧ r < c.ways.length := by
  obtain ⟨i, hi, rfl⟩ := List.mem_map.mp h
  have := List.mem_range.mp hi
  omega
theorem allR_len (c : Ch) : (allR c).length = c.ways.length := by unfold allR; simp
theorem world_ok {c : Ch} (hc : OkC c) {w : List Int} (h : w ∈ pts (allR c) c.limit) : OkR c w ∧ (w.length : Int) ≤ c.limit :=
  ⟨⟨(allR_up c).sublist (pts_sub h), fun x hx => allR_in ((pts_sub h).mem hx)⟩, pts_few hc.k1 h⟩
/-! ### data that can be compared -/
theorem lays_map {α : Type} {f : α → D} : ∀ {xs : List α}, (∀ x ∈ xs, (f x).lay = true) → D.lays (xs.map f) = true
  | [], _ => rfl
  | x :: xs, h => by
    rw [List.map_cons, D.lays, h x List.mem_cons_self, lays_map fun y hy => h y (List.mem_cons_of_mem _ hy)]; rfl
theorem deps_map {α : Type} {f : α → D} {n : Nat} : ∀ {xs : List α}, (∀ x ∈ xs, (f x).dep ≤ n) → D.deps (xs.map f) ≤ n
  | [], _ => Nat.zero_le _
  | x :: xs, h => by
    rw [List.map_cons, D.deps]
    have := h x List.mem_cons_self
    have := deps_map (xs := xs) fun y hy => h y (List.mem_cons_of_mem _ hy)
    omega
theorem ints_lay (xs : List Int) : D.lays (xs.map .int) = true ∧ D.deps (xs.map .int) = 0 := ⟨lays_map fun _ _ => rfl, Nat.le_zero.mp (deps_map fun _ _ => Nat.le_refl _)⟩
theorem iT_lay (xs : List Int) : (iT xs).lay = true ∧ (iT xs).dep ≤ 1 := by
  unfold iT
  rw [D.lay, D.dep, (ints_lay xs).2]
  exact ⟨(ints_lay xs).1, Nat.le_refl _⟩
theorem iL_lay (xs : List Int) : (iL xs).lay = true ∧ (iL xs).dep ≤ 1 := by
  unfold iL
  rw [D.lay, D.dep, (ints_lay xs).2]
  exact ⟨(ints_lay xs).1, Nat.le_refl _⟩
theorem stD_lay (s : St) : (stD s).lay = true ∧ (stD s).dep ≤ 2 := by
  have a := iT_lay s.2.1
  have b := iT_lay s.2.2
  unfold stD
  rw [D.lay, D.dep]
  simp only [D.lays, D.deps, D.lay, D.dep, a.1, b.1, Bool.and_true, true_and]
  omega
theorem wayD_lay (w : Way) : (wayD w).lay = true ∧ (wayD w).dep ≤ 1 := ⟨rfl, by unfold wayD; simp [D.dep, D.deps]⟩
theorem encP_lay (c : Ch) : (encP c).lay = true ∧ (encP c).dep ≤ 64 := by
  have a : D.lays (c.ways.map wayD) = true := lays_map fun w _ => (wayD_lay w).1
  have b : D.deps (c.ways.map wayD) ≤ 1 := deps_map fun w _ => (wayD_lay w).2
  unfold encP
  rw [D.lay, D.dep]
  simp only [D.lays, D.deps, D.lay, D.dep, a, Bool.and_true, true_and]
  omega
theorem lst_lay {α : Type} {f : α → D} {xs : List α} {n : Nat} (h : ∀ x ∈ xs, (f x).lay = true ∧ (f x).dep ≤ n) (hn : n ≤ 60) : (D.lst (xs.map f)).lay = true ∧ (D.lst (xs.map f)).dep ≤ 64 := by
  have b : D.deps (xs.map f) ≤ n := deps_map fun x hx => (h x hx).2
  rw [D.lay, D.dep]
  exact ⟨lays_map fun x hx => (h x hx).1, by omega⟩
theorem ne_refl {d : D} (h : d.lay = true ∧ d.dep ≤ 64) : dCmp .ne d d = .ok (.bl false) := by
  have e : dCmp .ne d d = (dEq d d).bind fun b => .ok (.bl (!b)) := by cases d <;> rfl
  rw [e, dEq_refl h.1 h.2]; rfl
end Z


namespace K01
open PySem PySem.Spec PyProof.Rows L2 Z
def top (i : Nat) : Stmt := PySem.Challenge.pw_shutroads_k01_whole_walks.main.body.getD i (.Pass ⟨0, 0, 0, 0⟩)
def inCls : Stmt → List Stmt
  | .ClassDef _ _ _ b _ _ _ _ _ _ _ => b
  | _ => []
def mth (i j : Nat) : Stmt := (inCls (top i)).getD j (.Pass ⟨0, 0, 0, 0⟩)
abbrev s_Map__len_ : Stmt := mth 15 6
def d_Map__len_ : Dd := ⟨fun K => He.fAd K ((Str.ofString "Map"), some (Str.ofString "__len__")), (Str.ofString "__len__"), (Str.ofString "Map.__len__"), defArgs s_Map__len_, defBody s_Map__len_, defScope s_Map__len_⟩
abbrev s__law_cell_at : Stmt := top 38
def d__law_cell_at : Dd := ⟨fun K => He.fAd K ((Str.ofString "_law_cell_at"), none), (Str.ofString "_law_cell_at"), (Str.ofString "_law_cell_at"), defArgs s__law_cell_at, defBody s__law_cell_at, defScope s__law_cell_at⟩
abbrev s__law_map : Stmt := top 40
def d__law_map : Dd := ⟨fun K => He.fAd K ((Str.ofString "_law_map"), none), (Str.ofString "_law_map"), (Str.ofString "_law_map"), defArgs s__law_map, defBody s__law_map, defScope s__law_map⟩
abbrev s_is_integer : Stmt := top 12
def d_is_integer : Dd := ⟨fun K => He.fAd K ((Str.ofString "is_integer"), none), (Str.ofString "is_integer"), (Str.ofString "is_integer"), defArgs s_is_integer, defBody s_is_integer, defScope s_is_integer⟩
abbrev s_are_rising : Stmt := top 13
def d_are_rising : Dd := ⟨fun K => He.fAd K ((Str.ofString "are_rising"), none), (Str.ofString "are_rising"), (Str.ofString "are_rising"), defArgs s_are_rising, defBody s_are_rising, defScope s_are_rising⟩
abbrev s_is_road : Stmt := top 14
def d_is_road : Dd := ⟨fun K => He.fAd K ((Str.ofString "is_road"), none), (Str.ofString "is_road"), (Str.ofString "is_road"), defArgs s_is_road, defBody s_is_road, defScope s_is_road⟩
abbrev s_Map : Stmt := mth 15 1
def d_Map : Dd := ⟨fun K => He.fAd K ((Str.ofString "Map"), some (Str.ofString "__init__")), (Str.ofString "__init__"), (Str.ofString "Map.__init__"), defArgs s_Map, defBody s_Map, defScope s_Map⟩
abbrev s__law_parts : Stmt := top 41
def d__law_parts : Dd := ⟨fun K => He.fAd K ((Str.ofString "_law_parts"), none), (Str.ofString "_law_parts"), (Str.ofString "_law_parts"), defArgs s__law_parts, defBody s__law_parts, defScope s__law_parts⟩
abbrev s_check_map : Stmt := top 16
def d_check_map : Dd := ⟨fun K => He.fAd K ((Str.ofString "check_map"), none), (Str.ofString "check_map"), (Str.ofString "check_map"), defArgs s_check_map, defBody s_check_map, defScope s_check_map⟩
abbrev s_roads_at : Stmt := top 20
def d_roads_at : Dd := ⟨fun K => He.fAd K ((Str.ofString "roads_at"), none), (Str.ofString "roads_at"), (Str.ofString "roads_at"), defArgs s_roads_at, defBody s_roads_at, defScope s_roads_at⟩
abbrev s_parts_of : Stmt := top 26
def d_parts_of : Dd := ⟨fun K => He.fAd K ((Str.ofString "parts_of"), none), (Str.ofString "parts_of"), (Str.ofString "parts_of"), defArgs s_parts_of, defBody s_parts_of, defScope s_parts_of⟩
abbrev s_seen_at : Stmt := top 30
def d_seen_at : Dd := ⟨fun K => He.fAd K ((Str.ofString "seen_at"), none), (Str.ofString "seen_at"), (Str.ofString "seen_at"), defArgs s_seen_at, defBody s_seen_at, defScope s_seen_at⟩
abbrev s_first_of : Stmt := top 31
def d_first_of : Dd := ⟨fun K => He.fAd K ((Str.ofString "first_of"), none), (Str.ofString "first_of"), (Str.ofString "first_of"), defArgs s_first_of, defBody s_first_of, defScope s_first_of⟩
abbrev s_first_states : Stmt := top 34
def d_first_states : Dd := ⟨fun K => He.fAd K ((Str.ofString "first_states"), none), (Str.ofString "first_states"), (Str.ofString "first_states"), defArgs s_first_states, defBody s_first_states, defScope s_first_states⟩
abbrev s__law_at : Stmt := top 42
def d__law_at : Dd := ⟨fun K => He.fAd K ((Str.ofString "_law_at"), none), (Str.ofString "_law_at"), (Str.ofString "_law_at"), defArgs s__law_at, defBody s__law_at, defScope s__law_at⟩
abbrev s__law_seen : Stmt := top 44
def d__law_seen : Dd := ⟨fun K => He.fAd K ((Str.ofString "_law_seen"), none), (Str.ofString "_law_seen"), (Str.ofString "_law_seen"), defArgs s__law_seen, defBody s__law_seen, defScope s__law_seen⟩
abbrev s__law_first : Stmt := top 45
def d__law_first : Dd := ⟨fun K => He.fAd K ((Str.ofString "_law_first"), none), (Str.ofString "_law_first"), (Str.ofString "_law_first"), defArgs s__law_first, defBody s__law_first, defScope s__law_first⟩
abbrev s_worlds : Stmt := top 25
def d_worlds : Dd := ⟨fun K => He.fAd K ((Str.ofString "worlds"), none), (Str.ofString "worlds"), (Str.ofString "worlds"), defArgs s_worlds, defBody s_worlds, defScope s_worlds⟩
abbrev s_are_roads : Stmt := top 17
def d_are_roads : Dd := ⟨fun K => He.fAd K ((Str.ofString "are_roads"), none), (Str.ofString "are_roads"), (Str.ofString "are_roads"), defArgs s_are_roads, defBody s_are_roads, defScope s_are_roads⟩
abbrev s_is_world : Stmt := top 18
def d_is_world : Dd := ⟨fun K => He.fAd K ((Str.ofString "is_world"), none), (Str.ofString "is_world"), (Str.ofString "is_world"), defArgs s_is_world, defBody s_is_world, defScope s_is_world⟩
abbrev s_check_world : Stmt := top 19
def d_check_world : Dd := ⟨fun K => He.fAd K ((Str.ofString "check_world"), none), (Str.ofString "check_world"), (Str.ofString "check_world"), defArgs s_check_world, defBody s_check_world, defScope s_check_world⟩
abbrev s_length_of : Stmt := top 22
def d_length_of : Dd := ⟨fun K => He.fAd K ((Str.ofString "length_of"), none), (Str.ofString "length_of"), (Str.ofString "length_of"), defArgs s_length_of, defBody s_length_of, defScope s_length_of⟩
abbrev s_other_end : Stmt := top 21
def d_other_end : Dd := ⟨fun K => He.fAd K ((Str.ofString "other_end"), none), (Str.ofString "other_end"), (Str.ofString "other_end"), defArgs s_other_end, defBody s_other_end, defScope s_other_end⟩
abbrev s_distance : Stmt := top 23
def d_distance : Dd := ⟨fun K => He.fAd K ((Str.ofString "distance"), none), (Str.ofString "distance"), (Str.ofString "distance"), defArgs s_distance, defBody s_distance, defScope s_distance⟩
abbrev s_open_length : Stmt := top 24
def d_open_length : Dd := ⟨fun K => He.fAd K ((Str.ofString "open_length"), none), (Str.ofString "open_length"), (Str.ofString "open_length"), defArgs s_open_length, defBody s_open_length, defScope s_open_length⟩
abbrev s__law_far : Stmt := top 47
def d__law_far : Dd := ⟨fun K => He.fAd K ((Str.ofString "_law_far"), none), (Str.ofString "_law_far"), (Str.ofString "_law_far"), defArgs s__law_far, defBody s__law_far, defScope s__law_far⟩
abbrev s__law_pick : Stmt := top 39
def d__law_pick : Dd := ⟨fun K => He.fAd K ((Str.ofString "_law_pick"), none), (Str.ofString "_law_pick"), (Str.ofString "_law_pick"), defArgs s__law_pick, defBody s__law_pick, defScope s__law_pick⟩
abbrev s_is_state : Stmt := top 28
def d_is_state : Dd := ⟨fun K => He.fAd K ((Str.ofString "is_state"), none), (Str.ofString "is_state"), (Str.ofString "is_state"), defArgs s_is_state, defBody s_is_state, defScope s_is_state⟩
abbrev s_check_state : Stmt := top 29
def d_check_state : Dd := ⟨fun K => He.fAd K ((Str.ofString "check_state"), none), (Str.ofString "check_state"), (Str.ofString "check_state"), defArgs s_check_state, defBody s_check_state, defScope s_check_state⟩
abbrev s_ways_from : Stmt := top 32
def d_ways_from : Dd := ⟨fun K => He.fAd K ((Str.ofString "ways_from"), none), (Str.ofString "ways_from"), (Str.ofString "ways_from"), defArgs s_ways_from, defBody s_ways_from, defScope s_ways_from⟩
abbrev s_ways : Stmt := top 35
def d_ways : Dd := ⟨fun K => He.fAd K ((Str.ofString "ways"), none), (Str.ofString "ways"), (Str.ofString "ways"), defArgs s_ways, defBody s_ways, defScope s_ways⟩
abbrev s__law_end : Stmt := top 43
def d__law_end : Dd := ⟨fun K => He.fAd K ((Str.ofString "_law_end"), none), (Str.ofString "_law_end"), (Str.ofString "_law_end"), defArgs s__law_end, defBody s__law_end, defScope s__law_end⟩
abbrev s_after : Stmt := top 33
def d_after : Dd := ⟨fun K => He.fAd K ((Str.ofString "after"), none), (Str.ofString "after"), (Str.ofString "after"), defArgs s_after, defBody s_after, defScope s_after⟩
abbrev s_results : Stmt := top 36
def d_results : Dd := ⟨fun K => He.fAd K ((Str.ofString "results"), none), (Str.ofString "results"), (Str.ofString "results"), defArgs s_results, defBody s_results, defScope s_results⟩
abbrev s_Map_most : Stmt := mth 15 5
def d_Map_most : Dd := ⟨prA (Str.ofString "Map") (Str.ofString "most"), (Str.ofString "most"), (Str.ofString "Map.most"), defArgs s_Map_most, defBody s_Map_most, defScope s_Map_most⟩
abbrev s_Map_ends : Stmt := mth 15 4
def d_Map_ends : Dd := ⟨prA (Str.ofString "Map") (Str.ofString "ends"), (Str.ofString "ends"), (Str.ofString "Map.ends"), defArgs s_Map_ends, defBody s_Map_ends, defScope s_Map_ends⟩
abbrev s_Map_roads : Stmt := mth 15 3
def d_Map_roads : Dd := ⟨prA (Str.ofString "Map") (Str.ofString "roads"), (Str.ofString "roads"), (Str.ofString "Map.roads"), defArgs s_Map_roads, defBody s_Map_roads, defScope s_Map_roads⟩
abbrev s_Map_places : Stmt := mth 15 2
def d_Map_places : Dd := ⟨prA (Str.ofString "Map") (Str.ofString "places"), (Str.ofString "places"), (Str.ofString "Map.places"), defArgs s_Map_places, defBody s_Map_places, defScope s_Map_places⟩
abbrev s_law : Stmt := top 50
def d_law : Dd := ⟨fun K => He.fAd K ((Str.ofString "law"), none), (Str.ofString "law"), (Str.ofString "law"), defArgs s_law, defBody s_law, defScope s_law⟩
def T : Pt where
  clN := [(Str.ofString "Map")]
  atN := [(Str.ofString "many"), (Str.ofString "ways"), (Str.ofString "aims"), (Str.ofString "limit"), (Str.ofString "places"), (Str.ofString "roads"), (Str.ofString "ends"), (Str.ofString "most"), (Str.ofString "all_parts")]
  sl := [((0, 2), 0), ((0, 3), 1), ((0, 0), 2), ((0, 1), 3)]
  pr := [((0, 7), 8), ((0, 6), 7), ((0, 5), 6), ((0, 4), 5)]
  mt := []
  ln := [(0, 0)]
  fb := fun g => match g with
    | 0 => [false]
    | 201 => [false, false]
    | 203 => [false, false, false, false]
    | 1 => [false, false, false]
    | 2 => [false]
    | 3 => [false, false]
    | 4 => [false, false, false, false]
    | 204 => [false, false]
    | 11 => [false]
    | 15 => [false, false]
    | 19 => [false, false]
    | 24 => [false, false, false, false]
    | 25 => [false]
    | 29 => [false]
    | 205 => [false, false]
    | 207 => [false, false, false, false]
    | 208 => [false]
    | 21 => [false]
    | 12 => [false, false]
    | 13 => [false, false]
    | 14 => [false, false]
    | 17 => [false, false]
    | 16 => [false, false, false]
    | 18 => [false, false, false]
    | 20 => [false, false]
    | 210 => [false, false, false]
    | 202 => [false, false, false]
    | 22 => [false, false]
    | 23 => [false, false]
    | 27 => [false, false]
    | 30 => [false, false]
    | 206 => [false, false, false]
    | 28 => [false, false, false]
    | 31 => [false, false, false]
    | 8 => [false]
    | 7 => [false]
    | 6 => [false]
    | 5 => [false]
    | 213 => [false]
    | _ => []
  cst := [((Str.ofString "MIN_PLACES"), .int 2), ((Str.ofString "MAX_PLACES"), .int 6), ((Str.ofString "MAX_ROADS"), .int 8), ((Str.ofString "MAX_LENGTH"), .int 9), ((Str.ofString "MAX_SHUT"), .int 3)]
  fns := [((Str.ofString "_law_cell_at"), 201), ((Str.ofString "_law_map"), 203), ((Str.ofString "is_integer"), 1), ((Str.ofString "are_rising"), 2), ((Str.ofString "is_road"), 3), ((Str.ofString "Map"), 4), ((Str.ofString "_law_parts"), 204), ((Str.ofString "check_map"), 11), ((Str.ofString "roads_at"), 15), ((Str.ofString "parts_of"), 19), ((Str.ofString "seen_at"), 24), ((Str.ofString "first_of"), 25), ((Str.ofString "first_states"), 29), ((Str.ofString "_law_at"), 205), ((Str.ofString "_law_seen"), 207), ((Str.ofString "_law_first"), 208), ((Str.ofString "worlds"), 21), ((Str.ofString "are_roads"), 12), ((Str.ofString "is_world"), 13), ((Str.ofString "check_world"), 14), ((Str.ofString "length_of"), 17), ((Str.ofString "other_end"), 16), ((Str.ofString "distance"), 18), ((Str.ofString "open_length"), 20), ((Str.ofString "_law_far"), 210), ((Str.ofString "_law_pick"), 202), ((Str.ofString "is_state"), 22), ((Str.ofString "check_state"), 23), ((Str.ofString "ways_from"), 27), ((Str.ofString "ways"), 30), ((Str.ofString "_law_end"), 206), ((Str.ofString "after"), 28), ((Str.ofString "results"), 31), ((Str.ofString "law"), 213)]
  lams := [(((Str.ofString "_law_parts"), none), (Str.ofString "_law_parts.<locals>.<lambda>")), (((Str.ofString "parts_of"), none), (Str.ofString "parts_of.<locals>.<lambda>"))]
  defs := [(0, .fn d_Map__len_), (201, .fn d__law_cell_at), (203, .fn d__law_map), (1, .fn d_is_integer), (2, .fn d_are_rising), (3, .fn d_is_road), (4, .mk 0 d_Map), (204, .fn d__law_parts), (11, .fn d_check_map), (15, .fn d_roads_at), (19, .fn d_parts_of), (24, .fn d_seen_at), (25, .fn d_first_of), (29, .fn d_first_states), (205, .fn d__law_at), (207, .fn d__law_seen), (208, .fn d__law_first), (21, .fn d_worlds), (12, .fn d_are_roads), (13, .fn d_is_world), (14, .fn d_check_world), (17, .fn d_length_of), (16, .fn d_other_end), (18, .fn d_distance), (20, .fn d_open_length), (210, .fn d__law_far), (202, .fn d__law_pick), (22, .fn d_is_state), (23, .fn d_check_state), (27, .fn d_ways_from), (30, .fn d_ways), (206, .fn d__law_end), (28, .fn d_after), (31, .fn d_results), (8, .fn d_Map_most), (7, .fn d_Map_ends), (6, .fn d_Map_roads), (5, .fn d_Map_places), (213, .fn d_law)]
  nob := [(Str.ofString "len"), (Str.ofString "isinstance"), (Str.ofString "int"), (Str.ofString "bool"), (Str.ofString "str"), (Str.ofString "tuple"), (Str.ofString "list"), (Str.ofString "dict"), (Str.ofString "all"), (Str.ofString "any"), (Str.ofString "zip"), (Str.ofString "enumerate"), (Str.ofString "sorted"), (Str.ofString "range"), (Str.ofString "set"), (Str.ofString "min"), (Str.ofString "max"), (Str.ofString "sum"), (Str.ofString "abs")]
def l_Map__len_ : Lf where
  id := 0
  kd := .fn d_Map__len_
  N := [(Str.ofString "self")]
  ps := [(Str.ofString "self")]
  fns := []
  ats := [((Str.ofString "ways"), 1)]
  cls := []
  lam := none
  U := ⟨[], []⟩
  fuel := 120
  ir := i_Map__len_
def l__law_cell_at : Lf where
  id := 201
  kd := .fn d__law_cell_at
  N := [(Str.ofString "_law_script"), (Str.ofString "_law_k")]
  ps := [(Str.ofString "_law_script"), (Str.ofString "_law_k")]
  fns := []
  ats := []
  cls := []
  lam := none
  U := ⟨[], []⟩
  fuel := 120
  ir := i__law_cell_at
def l__law_map : Lf where
  id := 203
  kd := .fn d__law_map
  N := [(Str.ofString "_law_script"), (Str.ofString "_law_at_here"), (Str.ofString "_law_most_places"), (Str.ofString "_law_most_roads"), (Str.ofString "_law_places"), (Str.ofString "_law_roads"), (Str.ofString "_law_place"), (Str.ofString "_law_begin"), (Str.ofString "_law_goal"), (Str.ofString "_law_one"), (Str.ofString "_law_other")]
  ps := [(Str.ofString "_law_script"), (Str.ofString "_law_at_here"), (Str.ofString "_law_most_places"), (Str.ofString "_law_most_roads")]
  fns := [((Str.ofString "_law_cell_at"), 201)]
  ats := []
  cls := []
  lam := none
  U := ⟨[5], []⟩
  fuel := 120
  ir := i__law_map
def l_is_integer : Lf where
  id := 1
  kd := .fn d_is_integer
  N := [(Str.ofString "value"), (Str.ofString "low"), (Str.ofString "high")]
  ps := [(Str.ofString "value"), (Str.ofString "low"), (Str.ofString "high")]
  fns := []
  ats := []
  cls := []
  lam := none
  U := ⟨[], []⟩
  fuel := 120
  ir := i_is_integer
def l_are_rising : Lf where
  id := 2
  kd := .fn d_are_rising
  N := [(Str.ofString "row"), (Str.ofString "one"), (Str.ofString "other")]
  ps := [(Str.ofString "row")]
  fns := []
  ats := []
  cls := []
  lam := none
  U := ⟨[], []⟩
  fuel := 120
  ir := i_are_rising
def l_is_road : Lf where
  id := 3
  kd := .fn d_is_road
  N := [(Str.ofString "value"), (Str.ofString "places"), (Str.ofString "one")]
  ps := [(Str.ofString "value"), (Str.ofString "places")]
  fns := [((Str.ofString "is_integer"), 1)]
  ats := []
  cls := []
  lam := none
  U := ⟨[], []⟩
  fuel := 120
  ir := i_is_road
def l_Map : Lf where
  id := 4
  kd := .mk 0 d_Map
  N := [(Str.ofString "self"), (Str.ofString "places"), (Str.ofString "roads"), (Str.ofString "ends"), (Str.ofString "most"), (Str.ofString "road"), (Str.ofString "one")]
  ps := [(Str.ofString "self"), (Str.ofString "places"), (Str.ofString "roads"), (Str.ofString "ends"), (Str.ofString "most")]
  fns := [((Str.ofString "is_integer"), 1), ((Str.ofString "are_rising"), 2), ((Str.ofString "is_road"), 3)]
  ats := [((Str.ofString "many"), 0), ((Str.ofString "ways"), 1), ((Str.ofString "aims"), 2), ((Str.ofString "limit"), 3)]
  cls := []
  lam := none
  U := ⟨[], []⟩
  fuel := 120
  ir := i_Map
def l__law_parts : Lf where
  id := 204
  kd := .fn d__law_parts
  N := [(Str.ofString "_law_roads"), (Str.ofString "_law_most"), (Str.ofString "_law_found"), (Str.ofString "_law_road"), (Str.ofString "_law_some")]
  ps := [(Str.ofString "_law_roads"), (Str.ofString "_law_most")]
  fns := []
  ats := []
  cls := []
  lam := some 0
  U := ⟨[], []⟩
  fuel := 120
  ir := i__law_parts
def l_check_map : Lf where
  id := 11
  kd := .fn d_check_map
  N := [(Str.ofString "chart")]
  ps := [(Str.ofString "chart")]
  fns := []
  ats := []
  cls := [((Str.ofString "Map"), 0)]
  lam := none
  U := ⟨[], []⟩
  fuel := 120
  ir := i_check_map
def l_roads_at : Lf where
  id := 15
  kd := .fn d_roads_at
  N := [(Str.ofString "chart"), (Str.ofString "place"), (Str.ofString "road"), (Str.ofString "way")]
  ps := [(Str.ofString "chart"), (Str.ofString "place")]
  fns := []
  ats := [((Str.ofString "ways"), 1)]
  cls := []
  lam := none
  U := ⟨[], []⟩
  fuel := 120
  ir := i_roads_at
def l_parts_of : Lf where
  id := 19
  kd := .fn d_parts_of
  N := [(Str.ofString "roads"), (Str.ofString "most"), (Str.ofString "found"), (Str.ofString "road"), (Str.ofString "some")]
  ps := [(Str.ofString "roads"), (Str.ofString "most")]
  fns := []
  ats := []
  cls := []
  lam := some 1
  U := ⟨[2], []⟩
  fuel := 120
  ir := i_parts_of
def l_seen_at : Lf where
  id := 24
  kd := .fn d_seen_at
  N := [(Str.ofString "chart"), (Str.ofString "place"), (Str.ofString "free"), (Str.ofString "shut"), (Str.ofString "fresh"), (Str.ofString "found"), (Str.ofString "some"), (Str.ofString "rest"), (Str.ofString "road")]
  ps := [(Str.ofString "chart"), (Str.ofString "place"), (Str.ofString "free"), (Str.ofString "shut")]
  fns := [((Str.ofString "roads_at"), 15), ((Str.ofString "parts_of"), 19)]
  ats := [((Str.ofString "limit"), 3)]
  cls := []
  lam := none
  U := ⟨[5], []⟩
  fuel := 120
  ir := i_seen_at
def l_first_of : Lf where
  id := 25
  kd := .fn d_first_of
  N := [(Str.ofString "chart")]
  ps := [(Str.ofString "chart")]
  fns := [((Str.ofString "seen_at"), 24)]
  ats := [((Str.ofString "aims"), 2)]
  cls := []
  lam := none
  U := ⟨[], []⟩
  fuel := 120
  ir := i_first_of
def l_first_states : Lf where
  id := 29
  kd := .fn d_first_states
  N := [(Str.ofString "chart")]
  ps := [(Str.ofString "chart")]
  fns := [((Str.ofString "check_map"), 11), ((Str.ofString "first_of"), 25)]
  ats := []
  cls := []
  lam := none
  U := ⟨[], []⟩
  fuel := 120
  ir := i_first_states
def l__law_at : Lf where
  id := 205
  kd := .fn d__law_at
  N := [(Str.ofString "_law_plain"), (Str.ofString "_law_place"), (Str.ofString "_law_road"), (Str.ofString "_law_way")]
  ps := [(Str.ofString "_law_plain"), (Str.ofString "_law_place")]
  fns := []
  ats := []
  cls := []
  lam := none
  U := ⟨[], []⟩
  fuel := 120
  ir := i__law_at
def l__law_seen : Lf where
  id := 207
  kd := .fn d__law_seen
  N := [(Str.ofString "_law_plain"), (Str.ofString "_law_place"), (Str.ofString "_law_free"), (Str.ofString "_law_shut"), (Str.ofString "_law_fresh"), (Str.ofString "_law_found"), (Str.ofString "_law_some"), (Str.ofString "_law_rest"), (Str.ofString "_law_road")]
  ps := [(Str.ofString "_law_plain"), (Str.ofString "_law_place"), (Str.ofString "_law_free"), (Str.ofString "_law_shut")]
  fns := [((Str.ofString "_law_at"), 205), ((Str.ofString "_law_parts"), 204)]
  ats := []
  cls := []
  lam := none
  U := ⟨[5], []⟩
  fuel := 120
  ir := i__law_seen
def l__law_first : Lf where
  id := 208
  kd := .fn d__law_first
  N := [(Str.ofString "_law_plain")]
  ps := [(Str.ofString "_law_plain")]
  fns := [((Str.ofString "_law_seen"), 207)]
  ats := []
  cls := []
  lam := none
  U := ⟨[], []⟩
  fuel := 120
  ir := i__law_first
def l_worlds : Lf where
  id := 21
  kd := .fn d_worlds
  N := [(Str.ofString "chart")]
  ps := [(Str.ofString "chart")]
  fns := [((Str.ofString "check_map"), 11), ((Str.ofString "parts_of"), 19)]
  ats := [((Str.ofString "limit"), 3)]
  cls := []
  lam := none
  U := ⟨[], []⟩
  fuel := 120
  ir := i_worlds
def l_are_roads : Lf where
  id := 12
  kd := .fn d_are_roads
  N := [(Str.ofString "chart"), (Str.ofString "value"), (Str.ofString "road")]
  ps := [(Str.ofString "chart"), (Str.ofString "value")]
  fns := [((Str.ofString "is_integer"), 1), ((Str.ofString "are_rising"), 2)]
  ats := []
  cls := []
  lam := none
  U := ⟨[], []⟩
  fuel := 120
  ir := i_are_roads
def l_is_world : Lf where
  id := 13
  kd := .fn d_is_world
  N := [(Str.ofString "chart"), (Str.ofString "value")]
  ps := [(Str.ofString "chart"), (Str.ofString "value")]
  fns := [((Str.ofString "are_roads"), 12)]
  ats := [((Str.ofString "limit"), 3)]
  cls := []
  lam := none
  U := ⟨[], []⟩
  fuel := 120
  ir := i_is_world
def l_check_world : Lf where
  id := 14
  kd := .fn d_check_world
  N := [(Str.ofString "chart"), (Str.ofString "world")]
  ps := [(Str.ofString "chart"), (Str.ofString "world")]
  fns := [((Str.ofString "check_map"), 11), ((Str.ofString "is_world"), 13)]
  ats := []
  cls := []
  lam := none
  U := ⟨[], []⟩
  fuel := 120
  ir := i_check_world
def l_length_of : Lf where
  id := 17
  kd := .fn d_length_of
  N := [(Str.ofString "chart"), (Str.ofString "road")]
  ps := [(Str.ofString "chart"), (Str.ofString "road")]
  fns := []
  ats := [((Str.ofString "ways"), 1)]
  cls := []
  lam := none
  U := ⟨[], []⟩
  fuel := 120
  ir := i_length_of
def l_other_end : Lf where
  id := 16
  kd := .fn d_other_end
  N := [(Str.ofString "chart"), (Str.ofString "road"), (Str.ofString "place"), (Str.ofString "one"), (Str.ofString "other"), (Str.ofString "length")]
  ps := [(Str.ofString "chart"), (Str.ofString "road"), (Str.ofString "place")]
  fns := []
  ats := [((Str.ofString "ways"), 1)]
  cls := []
  lam := none
  U := ⟨[], []⟩
  fuel := 120
  ir := i_other_end
def l_distance : Lf where
  id := 18
  kd := .fn d_distance
  N := [(Str.ofString "chart"), (Str.ofString "shut"), (Str.ofString "place"), (Str.ofString "best"), (Str.ofString "waiting"), (Str.ofString "here"), (Str.ofString "road"), (Str.ofString "there"), (Str.ofString "length")]
  ps := [(Str.ofString "chart"), (Str.ofString "shut"), (Str.ofString "place")]
  fns := [((Str.ofString "roads_at"), 15), ((Str.ofString "length_of"), 17), ((Str.ofString "other_end"), 16)]
  ats := [((Str.ofString "aims"), 2)]
  cls := []
  lam := none
  U := ⟨[3, 4], []⟩
  fuel := 120
  ir := i_distance
def l_open_length : Lf where
  id := 20
  kd := .fn d_open_length
  N := [(Str.ofString "chart"), (Str.ofString "world")]
  ps := [(Str.ofString "chart"), (Str.ofString "world")]
  fns := [((Str.ofString "check_world"), 14), ((Str.ofString "distance"), 18)]
  ats := [((Str.ofString "aims"), 2)]
  cls := []
  lam := none
  U := ⟨[], []⟩
  fuel := 120
  ir := i_open_length
def l__law_far : Lf where
  id := 210
  kd := .fn d__law_far
  N := [(Str.ofString "_law_plain"), (Str.ofString "_law_shut"), (Str.ofString "_law_place"), (Str.ofString "_law_best"), (Str.ofString "_law_turn"), (Str.ofString "_law_road"), (Str.ofString "_law_one"), (Str.ofString "_law_other"), (Str.ofString "_law_length"), (Str.ofString "_law_here"), (Str.ofString "_law_there"), (Str.ofString "_law_new")]
  ps := [(Str.ofString "_law_plain"), (Str.ofString "_law_shut"), (Str.ofString "_law_place")]
  fns := []
  ats := []
  cls := []
  lam := none
  U := ⟨[3], []⟩
  fuel := 120
  ir := i__law_far
def l__law_pick : Lf where
  id := 202
  kd := .fn d__law_pick
  N := [(Str.ofString "_law_script"), (Str.ofString "_law_at_here"), (Str.ofString "_law_row")]
  ps := [(Str.ofString "_law_script"), (Str.ofString "_law_at_here"), (Str.ofString "_law_row")]
  fns := [((Str.ofString "_law_cell_at"), 201)]
  ats := []
  cls := []
  lam := none
  U := ⟨[], []⟩
  fuel := 120
  ir := i__law_pick
def l_is_state : Lf where
  id := 22
  kd := .fn d_is_state
  N := [(Str.ofString "chart"), (Str.ofString "value"), (Str.ofString "place"), (Str.ofString "free"), (Str.ofString "shut"), (Str.ofString "road")]
  ps := [(Str.ofString "chart"), (Str.ofString "value")]
  fns := [((Str.ofString "is_integer"), 1), ((Str.ofString "are_roads"), 12), ((Str.ofString "roads_at"), 15)]
  ats := [((Str.ofString "many"), 0), ((Str.ofString "limit"), 3)]
  cls := []
  lam := none
  U := ⟨[], []⟩
  fuel := 120
  ir := i_is_state
def l_check_state : Lf where
  id := 23
  kd := .fn d_check_state
  N := [(Str.ofString "chart"), (Str.ofString "state")]
  ps := [(Str.ofString "chart"), (Str.ofString "state")]
  fns := [((Str.ofString "check_map"), 11), ((Str.ofString "is_state"), 22)]
  ats := []
  cls := []
  lam := none
  U := ⟨[], []⟩
  fuel := 120
  ir := i_check_state
def l_ways_from : Lf where
  id := 27
  kd := .fn d_ways_from
  N := [(Str.ofString "chart"), (Str.ofString "state"), (Str.ofString "road")]
  ps := [(Str.ofString "chart"), (Str.ofString "state")]
  fns := [((Str.ofString "roads_at"), 15)]
  ats := []
  cls := []
  lam := none
  U := ⟨[], []⟩
  fuel := 120
  ir := i_ways_from
def l_ways : Lf where
  id := 30
  kd := .fn d_ways
  N := [(Str.ofString "chart"), (Str.ofString "state")]
  ps := [(Str.ofString "chart"), (Str.ofString "state")]
  fns := [((Str.ofString "check_state"), 23), ((Str.ofString "ways_from"), 27)]
  ats := []
  cls := []
  lam := none
  U := ⟨[], []⟩
  fuel := 120
  ir := i_ways
def l__law_end : Lf where
  id := 206
  kd := .fn d__law_end
  N := [(Str.ofString "_law_plain"), (Str.ofString "_law_road"), (Str.ofString "_law_place")]
  ps := [(Str.ofString "_law_plain"), (Str.ofString "_law_road"), (Str.ofString "_law_place")]
  fns := []
  ats := []
  cls := []
  lam := none
  U := ⟨[], []⟩
  fuel := 120
  ir := i__law_end
def l_after : Lf where
  id := 28
  kd := .fn d_after
  N := [(Str.ofString "chart"), (Str.ofString "state"), (Str.ofString "road")]
  ps := [(Str.ofString "chart"), (Str.ofString "state"), (Str.ofString "road")]
  fns := [((Str.ofString "seen_at"), 24), ((Str.ofString "other_end"), 16)]
  ats := []
  cls := []
  lam := none
  U := ⟨[], []⟩
  fuel := 120
  ir := i_after
def l_results : Lf where
  id := 31
  kd := .fn d_results
  N := [(Str.ofString "chart"), (Str.ofString "state"), (Str.ofString "road")]
  ps := [(Str.ofString "chart"), (Str.ofString "state"), (Str.ofString "road")]
  fns := [((Str.ofString "check_state"), 23), ((Str.ofString "ways_from"), 27), ((Str.ofString "is_integer"), 1), ((Str.ofString "after"), 28)]
  ats := []
  cls := []
  lam := none
  U := ⟨[], []⟩
  fuel := 120
  ir := i_results
def l_Map_most : Lf where
  id := 8
  kd := .fn d_Map_most
  N := [(Str.ofString "self")]
  ps := [(Str.ofString "self")]
  fns := []
  ats := [((Str.ofString "limit"), 3)]
  cls := []
  lam := none
  U := ⟨[], []⟩
  fuel := 120
  ir := i_Map_most
def l_Map_ends : Lf where
  id := 7
  kd := .fn d_Map_ends
  N := [(Str.ofString "self")]
  ps := [(Str.ofString "self")]
  fns := []
  ats := [((Str.ofString "aims"), 2)]
  cls := []
  lam := none
  U := ⟨[], []⟩
  fuel := 120
  ir := i_Map_ends
def l_Map_roads : Lf where
  id := 6
  kd := .fn d_Map_roads
  N := [(Str.ofString "self")]
  ps := [(Str.ofString "self")]
  fns := []
  ats := [((Str.ofString "ways"), 1)]
  cls := []
  lam := none
  U := ⟨[], []⟩
  fuel := 120
  ir := i_Map_roads
def l_Map_places : Lf where
  id := 5
  kd := .fn d_Map_places
  N := [(Str.ofString "self")]
  ps := [(Str.ofString "self")]
  fns := []
  ats := [((Str.ofString "many"), 0)]
  cls := []
  lam := none
  U := ⟨[], []⟩
  fuel := 120
  ir := i_Map_places
def l_law : Lf where
  id := 213
  kd := .fn d_law
  N := [(Str.ofString "_law_script"), (Str.ofString "_law_plain"), (Str.ofString "_law_chart"), (Str.ofString "_law_every"), (Str.ofString "_law_state"), (Str.ofString "_law_turn"), (Str.ofString "_law_free"), (Str.ofString "_law_road"), (Str.ofString "_law_ends"), (Str.ofString "_law_world")]
  ps := [(Str.ofString "_law_script")]
  fns := [((Str.ofString "_law_map"), 203), ((Str.ofString "Map"), 4), ((Str.ofString "_law_parts"), 204), ((Str.ofString "first_states"), 29), ((Str.ofString "_law_first"), 208), ((Str.ofString "worlds"), 21), ((Str.ofString "open_length"), 20), ((Str.ofString "_law_far"), 210), ((Str.ofString "_law_pick"), 202), ((Str.ofString "_law_at"), 205), ((Str.ofString "ways"), 30), ((Str.ofString "_law_seen"), 207), ((Str.ofString "_law_end"), 206), ((Str.ofString "results"), 31)]
  ats := [((Str.ofString "most"), 7), ((Str.ofString "ends"), 6), ((Str.ofString "roads"), 5), ((Str.ofString "places"), 4)]
  cls := []
  lam := none
  U := ⟨[], []⟩
  fuel := 120
  ir := i_law
def irs (g : Nat) : Option Ir := match g with
  | 0 => some (.nl i_Map__len_ 1)
  | 201 => some (.fn i__law_cell_at 2)
  | 203 => some (.fn i__law_map 11)
  | 1 => some (.fn i_is_integer 3)
  | 2 => some (.fn i_are_rising 3)
  | 3 => some (.fn i_is_road 3)
  | 4 => some (.mk 0 4 i_Map 6)
  | 204 => some (.fn i__law_parts 5)
  | 11 => some (.fn i_check_map 1)
  | 15 => some (.fn i_roads_at 4)
  | 19 => some (.fn i_parts_of 5)
  | 24 => some (.fn i_seen_at 9)
  | 25 => some (.fn i_first_of 1)
  | 29 => some (.fn i_first_states 1)
  | 205 => some (.fn i__law_at 4)
  | 207 => some (.fn i__law_seen 9)
  | 208 => some (.fn i__law_first 1)
  | 21 => some (.fn i_worlds 1)
  | 12 => some (.fn i_are_roads 3)
  | 13 => some (.fn i_is_world 2)
  | 14 => some (.fn i_check_world 2)
  | 17 => some (.fn i_length_of 2)
  | 16 => some (.fn i_other_end 6)
  | 18 => some (.fn i_distance 9)
  | 20 => some (.fn i_open_length 2)
  | 210 => some (.fn i__law_far 12)
  | 202 => some (.fn i__law_pick 3)
  | 22 => some (.fn i_is_state 6)
  | 23 => some (.fn i_check_state 2)
  | 27 => some (.fn i_ways_from 3)
  | 30 => some (.fn i_ways 2)
  | 206 => some (.fn i__law_end 3)
  | 28 => some (.fn i_after 3)
  | 31 => some (.fn i_results 3)
  | 8 => some (.fn i_Map_most 1)
  | 7 => some (.fn i_Map_ends 1)
  | 6 => some (.fn i_Map_roads 1)
  | 5 => some (.fn i_Map_places 1)
  | 213 => some (.fn i_law 10)
  | _ => none
theorem ok_Map__len_ : LfOk T.nl l_Map__len_ := ⟨rfl, ⟨rfl, rfl, rfl, by decide +kernel, rfl, by decide +kernel, by decide +kernel⟩, by kernel_rfl, by decide +kernel, by kernel_rfl, (fun j e => nomatch e)⟩
theorem ok__law_cell_at : LfOk T l__law_cell_at := ⟨rfl, ⟨rfl, rfl, rfl, by decide +kernel, rfl, by decide +kernel, by decide +kernel⟩, by kernel_rfl, by decide +kernel, by kernel_rfl, (fun j e => nomatch e)⟩
theorem ok__law_map : LfOk T l__law_map := ⟨rfl, ⟨rfl, rfl, rfl, by decide +kernel, rfl, by decide +kernel, by decide +kernel⟩, by kernel_rfl, by decide +kernel, by kernel_rfl, (fun j e => nomatch e)⟩
theorem ok_is_integer : LfOk T l_is_integer := ⟨rfl, ⟨rfl, rfl, rfl, by decide +kernel, rfl, by decide +kernel, by decide +kernel⟩, by kernel_rfl, by decide +kernel, by kernel_rfl, (fun j e => nomatch e)⟩
theorem ok_are_rising : LfOk T l_are_rising := ⟨rfl, ⟨rfl, rfl, rfl, by decide +kernel, rfl, by decide +kernel, by decide +kernel⟩, by kernel_rfl, by decide +kernel, by kernel_rfl, (fun j e => nomatch e)⟩
theorem ok_is_road : LfOk T l_is_road := ⟨rfl, ⟨rfl, rfl, rfl, by decide +kernel, rfl, by decide +kernel, by decide +kernel⟩, by kernel_rfl, by decide +kernel, by kernel_rfl, (fun j e => nomatch e)⟩
theorem ok_Map : LfOk T l_Map := ⟨rfl, ⟨rfl, rfl, rfl, by decide +kernel, rfl, by decide +kernel, by decide +kernel⟩, by kernel_rfl, by decide +kernel, by kernel_rfl, (fun j e => nomatch e)⟩
theorem ok__law_parts : LfOk T l__law_parts := ⟨rfl, ⟨rfl, rfl, rfl, by decide +kernel, rfl, by decide +kernel, by decide +kernel⟩, by kernel_rfl, by decide +kernel, by kernel_rfl, (fun j e => by cases e; exact ⟨_, rfl, by decide +kernel, rfl⟩)⟩
theorem ok_check_map : LfOk T l_check_map := ⟨rfl, ⟨rfl, rfl, rfl, by decide +kernel, rfl, by decide +kernel, by decide +kernel⟩, by kernel_rfl, by decide +kernel, by kernel_rfl, (fun j e => nomatch e)⟩
theorem ok_roads_at : LfOk T l_roads_at := ⟨rfl, ⟨rfl, rfl, rfl, by decide +kernel, rfl, by decide +kernel, by decide +kernel⟩, by kernel_rfl, by decide +kernel, by kernel_rfl, (fun j e => nomatch e)⟩
theorem ok_parts_of : LfOk T l_parts_of := ⟨rfl, ⟨rfl, rfl, rfl, by decide +kernel, rfl, by decide +kernel, by decide +kernel⟩, by kernel_rfl, by decide +kernel, by kernel_rfl, (fun j e => by cases e; exact ⟨_, rfl, by decide +kernel, rfl⟩)⟩
theorem ok_seen_at : LfOk T l_seen_at := ⟨rfl, ⟨rfl, rfl, rfl, by decide +kernel, rfl, by decide +kernel, by decide +kernel⟩, by kernel_rfl, by decide +kernel, by kernel_rfl, (fun j e => nomatch e)⟩
theorem ok_first_of : LfOk T l_first_of := ⟨rfl, ⟨rfl, rfl, rfl, by decide +kernel, rfl, by decide +kernel, by decide +kernel⟩, by kernel_rfl, by decide +kernel, by kernel_rfl, (fun j e => nomatch e)⟩
theorem ok_first_states : LfOk T l_first_states := ⟨rfl, ⟨rfl, rfl, rfl, by decide +kernel, rfl, by decide +kernel, by decide +kernel⟩, by kernel_rfl, by decide +kernel, by kernel_rfl, (fun j e => nomatch e)⟩
theorem ok__law_at : LfOk T l__law_at := ⟨rfl, ⟨rfl, rfl, rfl, by decide +kernel, rfl, by decide +kernel, by decide +kernel⟩, by kernel_rfl, by decide +kernel, by kernel_rfl, (fun j e => nomatch e)⟩
theorem ok__law_seen : LfOk T l__law_seen := ⟨rfl, ⟨rfl, rfl, rfl, by decide +kernel, rfl, by decide +kernel, by decide +kernel⟩, by kernel_rfl, by decide +kernel, by kernel_rfl, (fun j e => nomatch e)⟩
theorem ok__law_first : LfOk T l__law_first := ⟨rfl, ⟨rfl, rfl, rfl, by decide +kernel, rfl, by decide +kernel, by decide +kernel⟩, by kernel_rfl, by decide +kernel, by kernel_rfl, (fun j e => nomatch e)⟩
theorem ok_worlds : LfOk T l_worlds := ⟨rfl, ⟨rfl, rfl, rfl, by decide +kernel, rfl, by decide +kernel, by decide +kernel⟩, by kernel_rfl, by decide +kernel, by kernel_rfl, (fun j e => nomatch e)⟩
theorem ok_are_roads : LfOk T l_are_roads := ⟨rfl, ⟨rfl, rfl, rfl, by decide +kernel, rfl, by decide +kernel, by decide +kernel⟩, by kernel_rfl, by decide +kernel, by kernel_rfl, (fun j e => nomatch e)⟩
theorem ok_is_world : LfOk T l_is_world := ⟨rfl, ⟨rfl, rfl, rfl, by decide +kernel, rfl, by decide +kernel, by decide +kernel⟩, by kernel_rfl, by decide +kernel, by kernel_rfl, (fun j e => nomatch e)⟩
theorem ok_check_world : LfOk T l_check_world := ⟨rfl, ⟨rfl, rfl, rfl, by decide +kernel, rfl, by decide +kernel, by decide +kernel⟩, by kernel_rfl, by decide +kernel, by kernel_rfl, (fun j e => nomatch e)⟩
theorem ok_length_of : LfOk T l_length_of := ⟨rfl, ⟨rfl, rfl, rfl, by decide +kernel, rfl, by decide +kernel, by decide +kernel⟩, by kernel_rfl, by decide +kernel, by kernel_rfl, (fun j e => nomatch e)⟩
theorem ok_other_end : LfOk T l_other_end := ⟨rfl, ⟨rfl, rfl, rfl, by decide +kernel, rfl, by decide +kernel, by decide +kernel⟩, by kernel_rfl, by decide +kernel, by kernel_rfl, (fun j e => nomatch e)⟩
theorem ok_distance : LfOk T l_distance := ⟨rfl, ⟨rfl, rfl, rfl, by decide +kernel, rfl, by decide +kernel, by decide +kernel⟩, by kernel_rfl, by decide +kernel, by kernel_rfl, (fun j e => nomatch e)⟩
theorem ok_open_length : LfOk T l_open_length := ⟨rfl, ⟨rfl, rfl, rfl, by decide +kernel, rfl, by decide +kernel, by decide +kernel⟩, by kernel_rfl, by decide +kernel, by kernel_rfl, (fun j e => nomatch e)⟩
theorem ok__law_far : LfOk T l__law_far := ⟨rfl, ⟨rfl, rfl, rfl, by decide +kernel, rfl, by decide +kernel, by decide +kernel⟩, by kernel_rfl, by decide +kernel, by kernel_rfl, (fun j e => nomatch e)⟩
theorem ok__law_pick : LfOk T l__law_pick := ⟨rfl, ⟨rfl, rfl, rfl, by decide +kernel, rfl, by decide +kernel, by decide +kernel⟩, by kernel_rfl, by decide +kernel, by kernel_rfl, (fun j e => nomatch e)⟩
theorem ok_is_state : LfOk T l_is_state := ⟨rfl, ⟨rfl, rfl, rfl, by decide +kernel, rfl, by decide +kernel, by decide +kernel⟩, by kernel_rfl, by decide +kernel, by kernel_rfl, (fun j e => nomatch e)⟩
theorem ok_check_state : LfOk T l_check_state := ⟨rfl, ⟨rfl, rfl, rfl, by decide +kernel, rfl, by decide +kernel, by decide +kernel⟩, by kernel_rfl, by decide +kernel, by kernel_rfl, (fun j e => nomatch e)⟩
theorem ok_ways_from : LfOk T l_ways_from := ⟨rfl, ⟨rfl, rfl, rfl, by decide +kernel, rfl, by decide +kernel, by decide +kernel⟩, by kernel_rfl, by decide +kernel, by kernel_rfl, (fun j e => nomatch e)⟩
theorem ok_ways : LfOk T l_ways := ⟨rfl, ⟨rfl, rfl, rfl, by decide +kernel, rfl, by decide +kernel, by decide +kernel⟩, by kernel_rfl, by decide +kernel, by kernel_rfl, (fun j e => nomatch e)⟩
theorem ok__law_end : LfOk T l__law_end := ⟨rfl, ⟨rfl, rfl, rfl, by decide +kernel, rfl, by decide +kernel, by decide +kernel⟩, by kernel_rfl, by decide +kernel, by kernel_rfl, (fun j e => nomatch e)⟩
theorem ok_after : LfOk T l_after := ⟨rfl, ⟨rfl, rfl, rfl, by decide +kernel, rfl, by decide +kernel, by decide +kernel⟩, by kernel_rfl, by decide +kernel, by kernel_rfl, (fun j e => nomatch e)⟩
theorem ok_results : LfOk T l_results := ⟨rfl, ⟨rfl, rfl, rfl, by decide +kernel, rfl, by decide +kernel, by decide +kernel⟩, by kernel_rfl, by decide +kernel, by kernel_rfl, (fun j e => nomatch e)⟩
theorem ok_Map_most : LfOk T l_Map_most := ⟨rfl, ⟨rfl, rfl, rfl, by decide +kernel, rfl, by decide +kernel, by decide +kernel⟩, by kernel_rfl, by decide +kernel, by kernel_rfl, (fun j e => nomatch e)⟩
theorem ok_Map_ends : LfOk T l_Map_ends := ⟨rfl, ⟨rfl, rfl, rfl, by decide +kernel, rfl, by decide +kernel, by decide +kernel⟩, by kernel_rfl, by decide +kernel, by kernel_rfl, (fun j e => nomatch e)⟩
theorem ok_Map_roads : LfOk T l_Map_roads := ⟨rfl, ⟨rfl, rfl, rfl, by decide +kernel, rfl, by decide +kernel, by decide +kernel⟩, by kernel_rfl, by decide +kernel, by kernel_rfl, (fun j e => nomatch e)⟩
theorem ok_Map_places : LfOk T l_Map_places := ⟨rfl, ⟨rfl, rfl, rfl, by decide +kernel, rfl, by decide +kernel, by decide +kernel⟩, by kernel_rfl, by decide +kernel, by kernel_rfl, (fun j e => nomatch e)⟩
theorem ok_law : LfOk T l_law := ⟨rfl, ⟨rfl, rfl, rfl, by decide +kernel, rfl, by decide +kernel, by decide +kernel⟩, by kernel_rfl, by decide +kernel, by kernel_rfl, (fun j e => nomatch e)⟩
theorem all_ok : ∀ p ∈ T.defs, DefOk T irs p := by
  intro p hp
  simp only [T, List.mem_cons, List.not_mem_nil, or_false] at hp
  rcases hp with rfl | rfl | rfl | rfl | rfl | rfl | rfl | rfl | rfl | rfl | rfl | rfl | rfl | rfl | rfl | rfl | rfl | rfl | rfl | rfl | rfl | rfl | rfl | rfl | rfl | rfl | rfl | rfl | rfl | rfl | rfl | rfl | rfl | rfl | rfl | rfl | rfl | rfl | rfl
  · exact ⟨l_Map__len_, rfl, rfl, .inr (.inl ⟨_, rfl, ok_Map__len_, rfl, rfl⟩)⟩
  · exact ⟨l__law_cell_at, rfl, rfl, .inl ⟨_, rfl, ok__law_cell_at, rfl, rfl⟩⟩
  · exact ⟨l__law_map, rfl, rfl, .inl ⟨_, rfl, ok__law_map, rfl, rfl⟩⟩
  · exact ⟨l_is_integer, rfl, rfl, .inl ⟨_, rfl, ok_is_integer, rfl, rfl⟩⟩
  · exact ⟨l_are_rising, rfl, rfl, .inl ⟨_, rfl, ok_are_rising, rfl, rfl⟩⟩
  · exact ⟨l_is_road, rfl, rfl, .inl ⟨_, rfl, ok_is_road, rfl, rfl⟩⟩
  · exact ⟨l_Map, rfl, rfl, .inr (.inr ⟨_, _, _, rfl, ok_Map, rfl, rfl⟩)⟩
  · exact ⟨l__law_parts, rfl, rfl, .inl ⟨_, rfl, ok__law_parts, rfl, rfl⟩⟩
  · exact ⟨l_check_map, rfl, rfl, .inl ⟨_, rfl, ok_check_map, rfl, rfl⟩⟩
  · exact ⟨l_roads_at, rfl, rfl, .inl ⟨_, rfl, ok_roads_at, rfl, rfl⟩⟩
  · exact ⟨l_parts_of, rfl, rfl, .inl ⟨_, rfl, ok_parts_of, rfl, rfl⟩⟩
  · exact ⟨l_seen_at, rfl, rfl, .inl ⟨_, rfl, ok_seen_at, rfl, rfl⟩⟩
  · exact ⟨l_first_of, rfl, rfl, .inl ⟨_, rfl, ok_first_of, rfl, rfl⟩⟩
  · exact ⟨l_first_states, rfl, rfl, .inl ⟨_, rfl, ok_first_states, rfl, rfl⟩⟩
  · exact ⟨l__law_at, rfl, rfl, .inl ⟨_, rfl, ok__law_at, rfl, rfl⟩⟩
  · exact ⟨l__law_seen, rfl, rfl, .inl ⟨_, rfl, ok__law_seen, rfl, rfl⟩⟩
  · exact ⟨l__law_first, rfl, rfl, .inl ⟨_, rfl, ok__law_first, rfl, rfl⟩⟩
  · exact ⟨l_worlds, rfl, rfl, .inl ⟨_, rfl, ok_worlds, rfl, rfl⟩⟩
  · exact ⟨l_are_roads, rfl, rfl, .inl ⟨_, rfl, ok_are_roads, rfl, rfl⟩⟩
  · exact ⟨l_is_world, rfl, rfl, .inl ⟨_, rfl, ok_is_world, rfl, rfl⟩⟩
  · exact ⟨l_check_world, rfl, rfl, .inl ⟨_, rfl, ok_check_world, rfl, rfl⟩⟩
  · exact ⟨l_length_of, rfl, rfl, .inl ⟨_, rfl, ok_length_of, rfl, rfl⟩⟩
  · exact ⟨l_other_end, rfl, rfl, .inl ⟨_, rfl, ok_other_end, rfl, rfl⟩⟩
  · exact ⟨l_distance, rfl, rfl, .inl ⟨_, rfl, ok_distance, rfl, rfl⟩⟩
  · exact ⟨l_open_length, rfl, rfl, .inl ⟨_, rfl, ok_open_length, rfl, rfl⟩⟩
  · exact ⟨l__law_far, rfl, rfl, .inl ⟨_, rfl, ok__law_far, rfl, rfl⟩⟩
  · exact ⟨l__law_pick, rfl, rfl, .inl ⟨_, rfl, ok__law_pick, rfl, rfl⟩⟩
  · exact ⟨l_is_state, rfl, rfl, .inl ⟨_, rfl, ok_is_state, rfl, rfl⟩⟩
  · exact ⟨l_check_state, rfl, rfl, .inl ⟨_, rfl, ok_check_state, rfl, rfl⟩⟩
  · exact ⟨l_ways_from, rfl, rfl, .inl ⟨_, rfl, ok_ways_from, rfl, rfl⟩⟩
  · exact ⟨l_ways, rfl, rfl, .inl ⟨_, rfl, ok_ways, rfl, rfl⟩⟩
  · exact ⟨l__law_end, rfl, rfl, .inl ⟨_, rfl, ok__law_end, rfl, rfl⟩⟩
  · exact ⟨l_after, rfl, rfl, .inl ⟨_, rfl, ok_after, rfl, rfl⟩⟩
  · exact ⟨l_results, rfl, rfl, .inl ⟨_, rfl, ok_results, rfl, rfl⟩⟩
  · exact ⟨l_Map_most, rfl, rfl, .inl ⟨_, rfl, ok_Map_most, rfl, rfl⟩⟩
  · exact ⟨l_Map_ends, rfl, rfl, .inl ⟨_, rfl, ok_Map_ends, rfl, rfl⟩⟩
  · exact ⟨l_Map_roads, rfl, rfl, .inl ⟨_, rfl, ok_Map_roads, rfl, rfl⟩⟩
  · exact ⟨l_Map_places, rfl, rfl, .inl ⟨_, rfl, ok_Map_places, rfl, rfl⟩⟩
  · exact ⟨l_law, rfl, rfl, .inl ⟨_, rfl, ok_law, rfl, rfl⟩⟩
theorem okT : T.okT = true := by decide +kernel
end K01

namespace K01
open PySem PySem.W PySem.Calls PyProof.Rows Z
abbrev Rw : OpenRow := OpenLaw.row PySem.Challenge.rw_shutroads_k01_whole_walks
abbrev hk : Hook := hookZ 5 (T.defs.map fun p => p.2.d) (T.lams.map (·.1)) T.exB
def ob (s : SharedT) : AlZ := obsZ 5 (T.defs.map fun p => p.2.d) (T.lams.map (·.1)) T.exB (HandSHeadRun.getT s)
theorem ob_eq (s : SharedT) : ob s = hk.obs s.abs := obsZ_eq (HandSHeadRun.getT_eq s)
def names0 : List PySem.Str := [PySem.Str.ofString "RoadError", PySem.Str.ofString "BadMap", PySem.Str.ofString "BadState", PySem.Str.ofString "BadRoad", PySem.Str.ofString "BadWorld", PySem.Str.ofString "MIN_PLACES", PySem.Str.ofString "MAX_PLACES", PySem.Str.ofString "MAX_ROADS", PySem.Str.ofString "MAX_LENGTH", PySem.Str.ofString "MAX_SHUT", PySem.Str.ofString "is_integer", PySem.Str.ofString "are_rising", PySem.Str.ofString "is_road", PySem.Str.ofString "Map", PySem.Str.ofString "check_map", PySem.Str.ofString "are_roads", PySem.Str.ofString "is_world", PySem.Str.ofString "check_world", PySem.Str.ofString "roads_at", PySem.Str.ofString "other_end", PySem.Str.ofString "length_of", PySem.Str.ofString "distance", PySem.Str.ofString "open_length", PySem.Str.ofString "worlds", PySem.Str.ofString "parts_of", PySem.Str.ofString "is_state", PySem.Str.ofString "check_state", PySem.Str.ofString "seen_at", PySem.Str.ofString "first_of", PySem.Str.ofString "ways_from", PySem.Str.ofString "after", PySem.Str.ofString "first_states", PySem.Str.ofString "ways", PySem.Str.ofString "results", PySem.Str.ofString "_law_cell_at", PySem.Str.ofString "_law_pick", PySem.Str.ofString "_law_map", PySem.Str.ofString "_law_parts", PySem.Str.ofString "_law_at", PySem.Str.ofString "_law_end"]
def names1 : List PySem.Str := [PySem.Str.ofString "_law_seen", PySem.Str.ofString "_law_first", PySem.Str.ofString "_law_moves", PySem.Str.ofString "_law_far", PySem.Str.ofString "_law_worlds", PySem.Str.ofString "_law_all"]
def names : List PySem.Str := names0 ++ names1
theorem run (w : World) : HandSHeadRun.RunEq Rw (view Rw.prog [50]) hk ob 6000 names w := by
  intro os
  kernel_rfl
end K01

/-! K01p: the law k01, in plain Lean. -/
namespace K01
open PySem Z
noncomputable abbrev M : Pe := T.pe irs
theorem mapG (F : Nat → List D → R D) : MapG (M.pg F) := ⟨rfl, rfl, rfl, rfl⟩
theorem mapGn (F : Nat → List D → R D) : MapG (M.pg F).nl := ⟨rfl, rfl, rfl, rfl⟩
section
variable (c : Ch) (hc : OkC c) (k : Nat)
include hc
theorem s0 : M.F (k + 1) 0 [encC c] = .ok (.int c.ways.length) := by rw [Pe.nlf (ir := i_Map__len_) (n := 1) rfl]; exact map_len_ev (mapGn _) c
omit hc in
theorem s1 (v lo hi : Int) : M.F (k + 1) 1 [.int v, .int lo, .int hi] = .ok (.bl (decide (lo ≤ v) && decide (v ≤ hi))) := by rw [Pe.fn (ir := i_is_integer) (n := 3) rfl]; exact is_integer_ev v lo hi
omit hc in
theorem s2 (xs : List Int) (hl : xs.length ≤ 1000) : M.F (k + 1) 2 [iT xs] = .ok (.bl (risB (fun a b => decide (a < b)) xs)) := by rw [Pe.fn (ir := i_are_rising) (n := 3) rfl]; exact are_rising_ev D.int _ xs hl lt_int
theorem s2w : M.F (k + 1) 2 [.tup (c.ways.map wayD)] = .ok (.bl (risB ltW c.ways)) := by rw [Pe.fn (ir := i_are_rising) (n := 3) rfl]; exact are_rising_ev wayD _ c.ways (by have := hc.l2; omega) lt_way
theorem s3 (w : Way) (hw : w ∈ c.ways) : M.F (k + 2) 3 [wayD w, .int c.many] = .ok (.bl true) := by rw [Pe.fn (ir := i_is_road) (n := 3) rfl]; exact is_road_ev (hc.w w hw) fun v lo hi => s1 k v lo hi
theorem s4 : M.F (k + 3) 4 [.int c.many, .tup (c.ways.map wayD), .tup [.int c.a, .int c.b], .int c.limit] = .ok (encC c) := by rw [Pe.mkf (ir := i_Map) (c := 0) (m := 4) (n := 6) rfl]; exact map_new_ev (mapG _) c hc (fun v lo hi => s1 (k + 1) v lo hi) (s2w c hc (k + 1)) fun w hw => s3 c hc k w hw
omit hc in
theorem s5 : M.F (k + 1) 5 [encC c] = .ok (.int c.many) := by rw [Pe.fn (ir := i_Map_places) (n := 1) rfl]; exact prop_ev c (n := 0) (j := 2) rfl rfl
omit hc in
theorem s6 : M.F (k + 1) 6 [encC c] = .ok (.tup (c.ways.map wayD)) := by rw [Pe.fn (ir := i_Map_roads) (n := 1) rfl]; exact prop_ev c (n := 1) (j := 3) rfl rfl
omit hc in
theorem s7 : M.F (k + 1) 7 [encC c] = .ok (.tup [.int c.a, .int c.b]) := by rw [Pe.fn (ir := i_Map_ends) (n := 1) rfl]; exact prop_ev c (n := 2) (j := 0) rfl rfl
omit hc in
theorem s8 : M.F (k + 1) 8 [encC c] = .ok (.int c.limit) := by rw [Pe.fn (ir := i_Map_most) (n := 1) rfl]; exact prop_ev c (n := 3) (j := 1) rfl rfl
omit hc in
theorem s11 : M.F (k + 1) 11 [encC c] = .ok .non := by rw [Pe.fn (ir := i_check_map) (n := 1) rfl]; exact check_map_ev c (by show 0 < 1; decide)
theorem s12 {xs : List Int} (hx : OkR c xs) : M.F (k + 2) 12 [encC c, iT xs] = .ok (.bl true) := by
  rw [Pe.fn (ir := i_are_roads) (n := 3) rfl]
  exact are_roads_ev c hx hc.l2 rfl (s0 c hc k) (fun v lo hi => s1 k v lo hi) (s2 k xs (by have := hx.len; have := hc.l2; omega))
theorem s13 {xs : List Int} (hx : OkR c xs) (hf : (xs.length : Int) ≤ c.limit) : M.F (k + 3) 13 [encC c, iT xs] = .ok (.bl true) := by rw [Pe.fn (ir := i_is_world) (n := 2) rfl]; exact is_world_ev (mapG _) c hf (s12 c hc k hx)
theorem s14 {xs : List Int} (hx : OkR c xs) (hf : (xs.length : Int) ≤ c.limit) : M.F (k + 4) 14 [encC c, iT xs] = .ok .non := by rw [Pe.fn (ir := i_check_world) (n := 2) rfl]; exact check_world_ev c (s11 c (k + 2)) (s13 c hc k hx hf)
theorem s15 (p : Int) : M.F (k + 1) 15 [encC c, .int p] = .ok (iL (rAt p c.ways)) := by rw [Pe.fn (ir := i_roads_at) (n := 4) rfl]; exact roads_at_ev (mapG _) c p hc.l2
omit hc in
theorem s16 (r p : Int) (w : Way) (h : L2.atI c.ways r = some w) : M.F (k + 1) 16 [encC c, .int r, .int p] = .ok (.int (oEnd w p)) := by rw [Pe.fn (ir := i_other_end) (n := 6) rfl]; exact other_end_ev (mapG _) c h
omit hc in
theorem s17 (r : Int) (w : Way) (h : L2.atI c.ways r = some w) : M.F (k + 1) 17 [encC c, .int r] = .ok (.int w.2.2) := by rw [Pe.fn (ir := i_length_of) (n := 2) rfl]; exact length_of_ev (mapG _) c h
theorem s18 (xs : List Int) {p : Int} (h0 : 0 ≤ p) (h1 : p < c.many) : ∃ o, IsMin c xs p c.b o ∧ M.F (k + 2) 18 [encC c, iT xs, .int p] = .ok (optD o) := by
  obtain ⟨o, a, b, _⟩ := distance_ev (G := M.pg (M.F (k + 1))) (mapG _) hc ⟨fun p => s15 c hc k p, fun r p w h => s16 c k r p w h, fun r w h => s17 c k r w h⟩ (sd := iT xs) (.inl rfl) h0 h1
  exact ⟨o, a, by rw [Pe.fn (ir := i_distance) (n := 9) rfl]; exact b⟩
omit hc in
theorem s19 (rs : List Int) (most : Int) (h : rs.length ≤ 8) : M.F (k + 1) 19 [iL rs, .int most] = .ok (.lst ((pts rs most).map rowD)) := by rw [Pe.fn (ir := i_parts_of) (n := 5) rfl]; exact parts_of_ev rs most h
theorem s20 {xs : List Int} (hx : OkR c xs) (hf : (xs.length : Int) ≤ c.limit) : ∃ o, IsMin c xs c.a c.b o ∧ M.F (k + 5) 20 [encC c, iT xs] = .ok (optD o) := by
  obtain ⟨o, a, b⟩ := s18 c hc (k + 2) xs hc.a1 hc.a2
  exact ⟨o, a, by rw [Pe.fn (ir := i_open_length) (n := 2) rfl]; exact open_length_ev (mapG _) c xs (s14 c hc k hx hf) b⟩
theorem s21 : M.F (k + 2) 21 [encC c] = .ok (.lst ((pts (allR c) c.limit).map rowD)) := by
  rw [Pe.fn (ir := i_worlds) (n := 1) rfl]
  refine worlds_ev (mapG _) c hc.l2 rfl (s0 c hc k) (s11 c k) ?_
  have e : D.lst (rngD 0 c.ways.length) = iL (allR c) := by unfold iL allR; rw [List.map_map]; rfl
  rw [e]
  exact s19 k _ _ (by rw [allR_len]; exact hc.l2)
theorem s22 {s : St} (hs : OkS c s) : M.F (k + 3) 22 [encC c, stD s] = .ok (.bl true) := by
  rw [Pe.fn (ir := i_is_state) (n := 6) rfl]
  exact is_state_ev (mapG _) c hs hc.l2 (fun v lo hi => s1 (k + 1) v lo hi) (s12 c hc k hs.free) (s12 c hc k hs.shut) (s15 c hc (k + 1) s.1)
theorem s23 {s : St} (hs : OkS c s) : M.F (k + 4) 23 [encC c, stD s] = .ok .non := by rw [Pe.fn (ir := i_check_state) (n := 2) rfl]; exact check_state_ev c (s11 c (k + 2)) (s22 c hc k hs)
theorem s24 (p : Int) {free shut : List Int} (hf : OkR c free) (hs : OkR c shut) : M.F (k + 2) 24 [encC c, .int p, iT free, iT shut] = .ok (.lst ((seen c p free shut).map stD)) := by
  have := hc.l2; have := hf.len; have := hs.len
  rw [Pe.fn (ir := i_seen_at) (n := 9) rfl]
  exact seen_at_ev (mapG _) c p free shut hc.l2 (by omega) (by omega) (s15 c hc k p) (s19 k _ _ (by have := fresh_len c p free shut; omega))
theorem s25 : M.F (k + 3) 25 [encC c] = .ok (.lst ((seen c c.a [] []).map stD)) := by rw [Pe.fn (ir := i_first_of) (n := 1) rfl]; exact first_of_ev (mapG _) c (s24 c hc k c.a (okR_nil c) (okR_nil c))
theorem s27 (s : St) : M.F (k + 2) 27 [encC c, stD s] = .ok (iL (wFrom c s)) := by rw [Pe.fn (ir := i_ways_from) (n := 3) rfl]; exact ways_from_ev c s hc.l2 (s15 c hc k s.1)
theorem s28 {s : St} (hs : OkS c s) {r : Int} {w : Way} (h : L2.atI c.ways r = some w) : M.F (k + 3) 28 [encC c, stD s, .int r] = .ok (.lst ((seen c (oEnd w s.1) s.2.1 s.2.2).map stD)) := by
  rw [Pe.fn (ir := i_after) (n := 3) rfl]; exact after_ev c s r (s16 c (k + 1) r s.1 w h) (s24 c hc k _ hs.free hs.shut)
theorem s29 : M.F (k + 4) 29 [encC c] = .ok (.lst ((seen c c.a [] []).map stD)) := by rw [Pe.fn (ir := i_first_states) (n := 1) rfl]; exact first_states_ev c (s11 c (k + 2)) (s25 c hc k)
theorem s30 {s : St} (hs : OkS c s) : M.F (k + 5) 30 [encC c, stD s] = .ok (iL (wFrom c s)) := by rw [Pe.fn (ir := i_ways) (n := 2) rfl]; exact ways_ev c s (s23 c hc k hs) (s27 c hc (k + 2) s)
theorem s31 {s : St} (hs : OkS c s) {r : Int} {w : Way} (hr : r ∈ wFrom c s) (h0 : 0 ≤ r) (h : L2.atI c.ways r = some w) : M.F (k + 5) 31 [encC c, stD s, .int r] = .ok (.lst ((seen c (oEnd w s.1) s.2.1 s.2.2).map stD)) := by
  rw [Pe.fn (ir := i_results) (n := 3) rfl]
  exact results_ev c s hc.l2 hr ⟨h0, (atI_bd h0 h).1⟩ rfl (s0 c hc (k + 3)) (fun v lo hi => s1 (k + 3) v lo hi) (s23 c hc k hs) (s27 c hc (k + 2) s) (s28 c hc (k + 1) hs h)
/-! the law's own -/
theorem t205 (p : Int) : M.F (k + 1) 205 [encP c, .int p] = .ok (iL (rAt p c.ways)) := by rw [Pe.fn (ir := i__law_at) (n := 4) rfl]; exact law_at_ev c p hc.l2
omit hc in
theorem t204 (rs : List Int) (most : Int) (h : rs.length ≤ 8) : M.F (k + 1) 204 [iL rs, .int most] = .ok (.lst ((pts rs most).map rowD)) := by rw [Pe.fn (ir := i__law_parts) (n := 5) rfl]; exact law_parts_ev rs most h
omit hc in
theorem t206 (r p : Int) (w : Way) (h : L2.atI c.ways r = some w) : M.F (k + 1) 206 [encP c, .int r, .int p] = .ok (.int (w.1 + w.2.1 - p)) := by rw [Pe.fn (ir := i__law_end) (n := 3) rfl]; exact law_end_ev c h
theorem t207 (p : Int) {free shut : List Int} (hf : OkR c free) (hs : OkR c shut) : M.F (k + 2) 207 [encP c, .int p, iT free, iT shut] = .ok (.lst ((seen c p free shut).map stD)) := by
  have := hc.l2; have := hf.len; have := hs.len
  rw [Pe.fn (ir := i__law_seen) (n := 9) rfl]
  exact law_seen_ev c p free shut hc.l2 (by omega) (by omega) (t205 c hc k p) (t204 k _ _ (by have := fresh_len c p free shut; omega))
theorem t208 : M.F (k + 3) 208 [encP c] = .ok (.lst ((seen c c.a [] []).map stD)) := by rw [Pe.fn (ir := i__law_first) (n := 1) rfl]; exact law_first_ev c (t207 c hc k c.a (okR_nil c) (okR_nil c))
theorem t210 (xs : List Int) : ∃ o, IsMin c xs c.a c.b o ∧ M.F (k + 1) 210 [encP c, iT xs, .int c.a] = .ok (optD o) := by
  obtain ⟨o, a, b⟩ := law_far_ev (G := M.pg (M.F k)) hc (sd := iT xs) (.inl rfl) hc.a1 hc.a2
  exact ⟨o, a, by rw [Pe.fn (ir := i__law_far) (n := 12) rfl]; exact b⟩
end
theorem t201 (k : Nat) (ns : List Int) {q : Int} (hq : 0 ≤ q) : ∃ v, M.F (k + 1) 201 [iL ns, .int q] = .ok (.int v) := by
  obtain ⟨v, e⟩ := cell_ev (G := M.pg (M.F k)) ns hq
  exact ⟨v, by rw [Pe.fn (ir := i__law_cell_at) (n := 2) rfl]; exact e⟩
theorem t202 (k : Nat) (ns : List Int) {q : Int} (hq : 0 ≤ q) {ds : List D} (hd : ds ≠ []) : ∃ d ∈ ds, M.F (k + 2) 202 [iL ns, .int q, .lst ds] = .ok d := by
  obtain ⟨v, e⟩ := t201 k ns hq
  obtain ⟨d, h, e2⟩ := pick_ev (G := M.pg (M.F (k + 1))) ns hd e
  exact ⟨d, h, by rw [Pe.fn (ir := i__law_pick) (n := 3) rfl]; exact e2⟩
theorem t203 (k : Nat) (ns : List Int) : ∃ c, OkC c ∧ M.F (k + 2) 203 [iL ns, .int 0, .int 6, .int 8] = .ok (encP c) := by
  obtain ⟨c, h, _, _, _, e⟩ := law_map_ev (G := M.pg (M.F (k + 1))) ns (fun q hq => t201 k ns hq) (at_ := 0) (mp := 6) (mr := 8) (by decide) (by decide) (by decide)
  exact ⟨c, h, by rw [Pe.fn (ir := i__law_map) (n := 11) rfl]; exact e⟩
/-! ### the walk -/
abbrev wbody : Sx := .seq (.asg (.nm 6) (.lc (.v 7) (.nm 7) (.sSeq (.call 205 (.cons (.v 1) (.cons (.idx (.b 4) (.k (.int 0))) .nil)))) (.tv (.cmp .isin (.b 7) (.idx (.b 4) (.k (.int 1))))))) (.seq (.iff (.tv (.cmp .ne (.call 30 (.cons (.v 2) (.cons (.v 4) .nil))) (.b 6))) (.seq (.ret (.k (.bl false))) .nil) .nil) (.seq (.iff (.tv (.cmp .eq (.b 6) (.lst .nil))) (.seq (.ret (.k (.bl true))) .nil) .nil) (.seq (.asg (.nm 7) (.call 202 (.cons (.v 0) (.cons (.bin .add (.k (.int 50)) (.b 5)) (.cons (.v 6) .nil))))) (.seq (.asg (.nm 8) (.call 207 (.cons (.v 1) (.cons (.call 206 (.cons (.v 1) (.cons (.v 7) (.cons (.idx (.b 4) (.k (.int 0))) .nil)))) (.cons (.idx (.b 4) (.k (.int 1))) (.cons (.idx (.b 4) (.k (.int 2))) .nil)))))) (.seq (.iff (.tv (.cmp .ne (.call 31 (.cons (.v 2) (.cons (.v 4) (.cons (.v 7) .nil)))) (.b 8))) (.seq (.ret (.k (.bl false))) .nil) .nil) (.seq (.asg (.nm 4) (.call 202 (.cons (.v 0) (.cons (.bin .add (.k (.int 60)) (.b 5)) (.cons (.v 8) .nil))))) .nil))))))
def wS (ns : List Int) (c : Ch) (ev3 : D) (s : St) (v5 v6 v7 v8 : Option SV) : Sl := [some (.val (iL ns)), some (.val (encP c)), some (.val (encC c)), some (.val ev3), some (.val (stD s)), v5, v6, v7, v8, none]
noncomputable abbrev GG : Pg := M.pg (M.F 7)
theorem walk_turn (ns : List Int) {c : Ch} (hc : OkC c) (ev3 : D) {s : St} (hs : OkS c s) {i : Int} (hi : 0 ≤ i) (v6 v7 v8 : Option SV) : evS GG wbody (wS ns c ev3 s (some (.val (.int i))) v6 v7 v8) = .rt (.bl true) ∨ ∃ t w6 w7 w8, OkS c t ∧ evS GG wbody (wS ns c ev3 s (some (.val (.int i))) v6 v7 v8) = .nx (wS ns c ev3 t (some (.val (.int i))) w6 w7 w8) := by
  have lr := rAt_len s.1 c.ways
  have l2 := hc.l2
  have a1 : evS GG (.asg (.nm 6) (.lc (.v 7) (.nm 7) (.sSeq (.call 205 (.cons (.v 1) (.cons (.idx (.b 4) (.k (.int 0))) .nil)))) (.tv (.cmp .isin (.b 7) (.idx (.b 4) (.k (.int 1))))))) (wS ns c ev3 s (some (.val (.int i))) v6 v7 v8) = .nx (wS ns c ev3 s (some (.val (.int i))) (some (.val (iL (wFrom c s)))) v7 v8) :=
    q_asg (d := iL (wFrom c s)) rfl (x_lc (xs := (rAt s.1 c.ways).map .int) (i_seq (d := iL (rAt s.1 c.ways)) (x_call (ds := [encP c, .int s.1]) rfl (t205 c hc 6 s.1)) rfl) (by simp; omega)
      (keep_lcK 7 (fun r => decide (r ∈ s.2.1)) (by simp [wS]) (rAt s.1 c.ways) fun r _ => t_v (x_cmp (a := .int r) (b := iT s.2.1) rfl rfl (isin_tup r s.2.1)))) rfl
  have a2 : evT GG (.tv (.cmp .ne (.call 30 (.cons (.v 2) (.cons (.v 4) .nil))) (.b 6))) (wS ns c ev3 s (some (.val (.int i))) (some (.val (iL (wFrom c s)))) v7 v8) = .ok false :=
    t_v (x_cmp (a := iL (wFrom c s)) (b := iL (wFrom c s)) (x_call (ds := [encC c, stD s]) rfl (s30 c hc 2 hs)) rfl (ne_refl ⟨(iL_lay _).1, by have := (iL_lay (wFrom c s)).2; omega⟩))
  have a3 : evT GG (.tv (.cmp .eq (.b 6) (.lst .nil))) (wS ns c ev3 s (some (.val (.int i))) (some (.val (iL (wFrom c s)))) v7 v8) = .ok (wFrom c s).isEmpty := t_v (x_cmp (a := iL (wFrom c s)) (b := .lst []) rfl rfl (eq_nil _))
  cases e : (wFrom c s).isEmpty with
  | true =>
    rw [e] at a3
    exact .inl (q_seq a1 (q_seq (q_iffF a2 q_nil) (q_seqR (q_iffT a3 (q_seqR (q_ret rfl rfl))))))
  | false =>
    rw [e] at a3
    have ne : (wFrom c s).map D.int ≠ [] := fun z => by
      rw [List.map_eq_nil_iff] at z
      rw [z] at e
      cases e
    obtain ⟨d, hd, e7⟩ := t202 5 ns (show 0 ≤ 50 + i by omega) ne
    obtain ⟨r, hr, rfl⟩ := List.mem_map.mp hd
    obtain ⟨w, r0, hw, tw⟩ := rAt_mem.mp (List.mem_filter.mp hr).1
    have sne : (seen c (oEnd w s.1) s.2.1 s.2.2).map stD ≠ [] := fun z => seen_ne _ _ _ _ (List.map_eq_nil_iff.mp z)
    obtain ⟨d, hd, e4⟩ := t202 5 ns (show 0 ≤ 60 + i by omega) sne
    obtain ⟨t, ht, rfl⟩ := List.mem_map.mp hd
    have e206 := t206 c 6 r s.1 w hw
    rw [end_eq tw] at e206
    have a7 : evS GG (.asg (.nm 7) (.call 202 (.cons (.v 0) (.cons (.bin .add (.k (.int 50)) (.b 5)) (.cons (.v 6) .nil))))) (wS ns c ev3 s (some (.val (.int i))) (some (.val (iL (wFrom c s)))) v7 v8) = .nx (wS ns c ev3 s (some (.val (.int i))) (some (.val (iL (wFrom c s)))) (some (.val (.int r))) v8) := q_asg (d := .int r) rfl (x_call (ds := [iL ns, .int (50 + i), iL (wFrom c s)]) rfl e7) rfl
    have a8 : evS GG (.asg (.nm 8) (.call 207 (.cons (.v 1) (.cons (.call 206 (.cons (.v 1) (.cons (.v 7) (.cons (.idx (.b 4) (.k (.int 0))) .nil)))) (.cons (.idx (.b 4) (.k (.int 1))) (.cons (.idx (.b 4) (.k (.int 2))) .nil)))))) (wS ns c ev3 s (some (.val (.int i))) (some (.val (iL (wFrom c s)))) (some (.val (.int r))) v8) = .nx (wS ns c ev3 s (some (.val (.int i))) (some (.val (iL (wFrom c s)))) (some (.val (.int r))) (some (.val (.lst ((seen c (oEnd w s.1) s.2.1 s.2.2).map stD))))) :=
      q_asg (d := .lst ((seen c (oEnd w s.1) s.2.1 s.2.2).map stD)) rfl (x_call (ds := [encP c, .int (oEnd w s.1), iT s.2.1, iT s.2.2]) (l_cons rfl (l_cons (x_call (ds := [encP c, .int r, .int s.1]) rfl e206) rfl)) (t207 c hc 5 _ hs.free hs.shut)) rfl
    have a9 : evT GG (.tv (.cmp .ne (.call 31 (.cons (.v 2) (.cons (.v 4) (.cons (.v 7) .nil)))) (.b 8))) (wS ns c ev3 s (some (.val (.int i))) (some (.val (iL (wFrom c s)))) (some (.val (.int r))) (some (.val (.lst ((seen c (oEnd w s.1) s.2.1 s.2.2).map stD))))) = .ok false :=
      t_v (x_cmp (a := .lst ((seen c (oEnd w s.1) s.2.1 s.2.2).map stD)) (b := .lst ((seen c (oEnd w s.1) s.2.1 s.2.2).map stD)) (x_call (ds := [encC c, stD s, .int r]) rfl (s31 c hc 2 hs hr r0 hw)) rfl (ne_refl (lst_lay (n := 2) (fun x _ => stD_lay x) (by decide))))
    have a10 : evS GG (.asg (.nm 4) (.call 202 (.cons (.v 0) (.cons (.bin .add (.k (.int 60)) (.b 5)) (.cons (.v 8) .nil))))) (wS ns c ev3 s (some (.val (.int i))) (some (.val (iL (wFrom c s)))) (some (.val (.int r))) (some (.val (.lst ((seen c (oEnd w s.1) s.2.1 s.2.2).map stD))))) = .nx (wS ns c ev3 t (some (.val (.int i))) (some (.val (iL (wFrom c s)))) (some (.val (.int r))) (some (.val (.lst ((seen c (oEnd w s.1) s.2.1 s.2.2).map stD))))) :=
      q_asg (d := stD t) rfl (x_call (ds := [iL ns, .int (60 + i), .lst ((seen c (oEnd w s.1) s.2.1 s.2.2).map stD)]) rfl e4) rfl
    exact .inr ⟨t, _, _, _, after_ok hc hs r0 hw ht, q_seq a1 (q_seq (q_iffF a2 q_nil) (q_seq (q_iffF a3 q_nil) (q_seq a7 (q_seq a8 (q_seq (q_iffF a9 q_nil) (q_seq a10 q_nil))))))⟩
theorem walk_loop (ns : List Int) {c : Ch} (hc : OkC c) (ev3 : D) : ∀ (is : List Int) (s : St) (v5 v6 v7 v8 : Option SV), (∀ i ∈ is, 0 ≤ i) → OkS c s → forGo (.nm 5) (evS GG wbody) (is.map .int) (wS ns c ev3 s v5 v6 v7 v8) = .rt (.bl true) ∨ ∃ st, forGo (.nm 5) (evS GG wbody) (is.map .int) (wS ns c ev3 s v5 v6 v7 v8) = .nx st
  | [], s, v5, v6, v7, v8, _, _ => .inr ⟨_, rfl⟩
  | i :: is, s, v5, v6, v7, v8, hi, hs => by
    have b : bindT (.nm 5) (.int i) (wS ns c ev3 s v5 v6 v7 v8) = some (wS ns c ev3 s (some (.val (.int i))) v6 v7 v8) := rfl
    rw [List.map_cons, forGo]
    simp only [b]
    rcases walk_turn ns hc ev3 hs (hi i List.mem_cons_self) v6 v7 v8 with e | ⟨t, w6, w7, w8, ht, e⟩
    · rw [e]; exact .inl rfl
    · rw [e]
      exact walk_loop ns hc ev3 is t _ _ _ _ (fun x hx => hi x (List.mem_cons_of_mem _ hx)) ht
theorem law_true (ns : List Int) : M.F 8 213 [.lst (ns.map .int)] = .ok (.bl true) := by
  rw [Pe.fn (ir := i_law) (n := 10) rfl]
  obtain ⟨c, hc, e1⟩ := t203 5 ns
  have l2 := hc.l2
  obtain ⟨W, hW⟩ : ∃ W : D, W = .lst ((pts (allR c) c.limit).map rowD) := ⟨_, rfl⟩
  have f21 : M.F 7 21 [encC c] = .ok W := by rw [hW]; exact s21 c hc 5
  have f204 : M.F 7 204 [iL (allR c), .int c.limit] = .ok W := by rw [hW]; exact t204 6 _ _ (by rw [allR_len]; exact l2)
  have Wl : W.lay = true ∧ W.dep ≤ 64 := by rw [hW]; exact lst_lay (n := 1) (fun x _ => iT_lay x) (by decide)
  have f29 : M.F 7 29 [encC c] = .ok (.lst ((seen c c.a [] []).map stD)) := s29 c hc 3
  have f208 : M.F 7 208 [encP c] = .ok (.lst ((seen c c.a [] []).map stD)) := t208 c hc 4
  have Sl : (D.lst ((seen c c.a [] []).map stD)).lay = true ∧ (D.lst ((seen c c.a [] []).map stD)).dep ≤ 64 := lst_lay (n := 2) (fun x _ => stD_lay x) (by decide)
  have sW : seqD W = .ok ((pts (allR c) c.limit).map rowD) := by rw [hW]; rfl
  have sne : (seen c c.a [] []).map stD ≠ [] := fun z => seen_ne _ _ _ _ (List.map_eq_nil_iff.mp z)
  obtain ⟨d, hd, e4⟩ := t202 5 ns (show (0 : Int) ≤ 40 by decide) sne
  obtain ⟨s, hs, rfl⟩ := List.mem_map.mp hd
  have hs := first_ok hc hs
  -- the lengths
  have H20 : ∀ w ∈ pts (allR c) c.limit, ∃ d : D, M.F 7 20 [encC c, rowD w] = .ok d ∧ M.F 7 210 [encP c, rowD w, .int c.a] = .ok d ∧ d.lay = true ∧ d.dep ≤ 0 := fun w hw => by
    obtain ⟨k1, k2⟩ := world_ok hc hw
    obtain ⟨o, m1, f1⟩ := s20 c hc 2 k1 k2
    obtain ⟨o', m2, f2⟩ := t210 c hc 6 w
    have := m1.one m2
    subst this
    exact ⟨optD o, f1, f2, by cases o <;> rfl, by cases o <;> exact Nat.le_refl _⟩
  obtain ⟨g, hg⟩ : ∃ g : List Int → D, ∀ w ∈ pts (allR c) c.limit, M.F 7 20 [encC c, rowD w] = .ok (g w) ∧ M.F 7 210 [encP c, rowD w, .int c.a] = .ok (g w) ∧ (g w).lay = true ∧ (g w).dep ≤ 0 := by
    refine ⟨fun w => if h : w ∈ pts (allR c) c.limit then Classical.choose (H20 w h) else .non, fun w hw => ?_⟩
    simp only [hw, dite_true]
    exact Classical.choose_spec (H20 w hw)
  have wl : (pts (allR c) c.limit).length ≤ 256 := pts_len _ (by rw [allR_len]; exact l2)
  have b1 : evS GG (.asg (.nm 1) (.call 203 (.cons (.v 0) (.cons (.k (.int 0)) (.cons (.k (.int 6)) (.cons (.k (.int 8)) .nil)))))) (argS [false] [iL ns] 10) = .nx [some (.val (iL ns)), some (.val (encP c)), none, none, none, none, none, none, none, none] := q_asg (d := encP c) rfl (x_call (ds := [iL ns, .int 0, .int 6, .int 8]) rfl e1) rfl
  have b2 : evS GG (.asg (.nm 2) (.call 4 (.cons (.idx (.b 1) (.k (.int 0))) (.cons (.idx (.b 1) (.k (.int 1))) (.cons (.idx (.b 1) (.k (.int 2))) (.cons (.idx (.b 1) (.k (.int 3))) .nil)))))) [some (.val (iL ns)), some (.val (encP c)), none, none, none, none, none, none, none, none] = .nx [some (.val (iL ns)), some (.val (encP c)), some (.val (encC c)), none, none, none, none, none, none, none] := q_asg (d := encC c) rfl (x_call (ds := [.int c.many, .tup (c.ways.map wayD), .tup [.int c.a, .int c.b], .int c.limit]) rfl (s4 c hc 4)) rfl
  have b3 : evT GG (.tor (.tv (.cmp .ne (.tup (.cons (.att (.b 2) 4) (.cons (.att (.b 2) 5) (.cons (.att (.b 2) 6) (.cons (.att (.b 2) 7) .nil))))) (.b 1))) (.tv (.cmp .ne (.blt .len (.cons (.b 2) .nil)) (.blt .len (.cons (.idx (.b 1) (.k (.int 1))) .nil))))) [some (.val (iL ns)), some (.val (encP c)), some (.val (encC c)), none, none, none, none, none, none, none] = .ok false := by
    have pr : ∀ {n f : Nat} {d : D}, M.sl 0 n = none → M.pr 0 n = some f → M.F 7 f [encC c] = .ok d → ev GG (.att (.b 2) n) [some (.val (iL ns)), some (.val (encP c)), some (.val (encC c)), none, none, none, none, none, none, none] = .ok d := fun {n f d} h1 h2 h3 => x_prop (c := 0) (f := f) (fs := [.tup [.int c.a, .int c.b], .int c.limit, .int c.many, .tup (c.ways.map wayD)]) rfl h1 h2 h3
    refine t_or (a := false) (b := false) (t_v (x_cmp (a := encP c) (b := encP c) (x_tup (ds := [.int c.many, .tup (c.ways.map wayD), .tup [.int c.a, .int c.b], .int c.limit]) (l_cons (pr rfl rfl (s5 c 6)) (l_cons (pr rfl rfl (s6 c 6)) (l_cons (pr rfl rfl (s7 c 6)) (l_one (pr rfl rfl (s8 c 6)))))) (by simp)) rfl (ne_refl (encP_lay c)))) fun _ => t_v (x_cmp (a := .int c.ways.length) (b := .int c.ways.length) (x_blt (ds := [encC c]) rfl (len_map c l2 rfl (s0 c hc 6))) (x_blt (ds := [.tup (c.ways.map wayD)]) rfl (by show R.ok (D.int ((c.ways.map wayD).length : Nat)) = _; rw [List.length_map])) ?_)
    rw [dNe_int]
    simp
  have b4 : evS GG (.asg (.nm 3) (.call 204 (.cons (.lrg (.k (.int 0)) (.blt .len (.cons (.idx (.b 1) (.k (.int 1))) .nil))) (.cons (.idx (.b 1) (.k (.int 3))) .nil)))) [some (.val (iL ns)), some (.val (encP c)), some (.val (encC c)), none, none, none, none, none, none, none] = .nx [some (.val (iL ns)), some (.val (encP c)), some (.val (encC c)), some (.val W), none, none, none, none, none, none] := by
    refine q_asg (d := W) rfl (x_call (ds := [iL (allR c), .int c.limit]) (l_cons ?_ rfl) f204) rfl
    have e : D.lst (rngD 0 c.ways.length) = iL (allR c) := by unfold iL allR; rw [List.map_map]; rfl
    have bl : ev GG (.blt .len (.cons (.idx (.b 1) (.k (.int 1))) .nil)) [some (.val (iL ns)), some (.val (encP c)), some (.val (encC c)), none, none, none, none, none, none, none] = .ok (.int c.ways.length) := x_blt (ds := [.tup (c.ways.map wayD)]) rfl (by show R.ok (D.int ((c.ways.map wayD).length : Nat)) = _; rw [List.length_map])
    have g : (c.ways.length : Int) ≤ 1000000 := by omega
    rw [ev, bl, ← e]
    simp [ev, R.bind, chk, g]
  have hF : GG.F = M.F 7 := rfl
  have z21 : GG.F 21 [encC c] = .ok W := by rw [hF]; exact f21
  have y21 : ev GG (.call 21 (.cons (.v 2) .nil)) [some (.val (iL ns)), some (.val (encP c)), some (.val (encC c)), some (.val W), none, none, none, none, none, none] = .ok W := x_call (ds := [encC c]) rfl z21
  have y29 : ev GG (.call 29 (.cons (.v 2) .nil)) [some (.val (iL ns)), some (.val (encP c)), some (.val (encC c)), some (.val W), none, none, none, none, none, none] = .ok (.lst ((seen c c.a [] []).map stD)) := x_call (ds := [encC c]) rfl f29
  have y208 : ev GG (.call 208 (.cons (.v 1) .nil)) [some (.val (iL ns)), some (.val (encP c)), some (.val (encC c)), some (.val W), none, none, none, none, none, none] = .ok (.lst ((seen c c.a [] []).map stD)) := x_call (ds := [encP c]) rfl f208
  have b5 : evT GG (.tor (.tv (.cmp .ne (.call 21 (.cons (.v 2) .nil)) (.b 3))) (.tv (.cmp .ne (.call 29 (.cons (.v 2) .nil)) (.call 208 (.cons (.v 1) .nil))))) [some (.val (iL ns)), some (.val (encP c)), some (.val (encC c)), some (.val W), none, none, none, none, none, none] = .ok false :=
    t_or (a := false) (b := false) (t_v (x_cmp (a := W) (b := W) y21 rfl (ne_refl Wl))) fun _ => t_v (x_cmp (a := .lst ((seen c c.a [] []).map stD)) (b := .lst ((seen c c.a [] []).map stD)) y29 y208 (ne_refl Sl))
  have k1 := lcGo_map (t := .nm 9) (e := ev GG (.call 20 (.cons (.v 2) (.cons (.v 9) .nil)))) (c := evT GG .tyes) (st := [some (.val (iL ns)), some (.val (encP c)), some (.val (encC c)), some (.val W), none, none, none, none, none, none]) rowD (fun _ => true) g (xs := pts (allR c) c.limit) fun w hw => ⟨_, rfl, rfl, fun _ => x_call (ds := [encC c, rowD w]) rfl (hg w hw).1⟩
  have k2 := lcGo_map (t := .nm 9) (e := ev GG (.call 210 (.cons (.v 1) (.cons (.v 9) (.cons (.idx (.idx (.b 1) (.k (.int 2))) (.k (.int 0))) .nil))))) (c := evT GG .tyes) (st := [some (.val (iL ns)), some (.val (encP c)), some (.val (encC c)), some (.val W), none, none, none, none, none, none]) rowD (fun _ => true) g (xs := pts (allR c) c.limit) fun w hw => ⟨_, rfl, rfl, fun _ => x_call (ds := [encP c, rowD w, .int c.a]) rfl (hg w hw).2.1⟩
  rw [List.filter_eq_self.mpr (fun _ _ => rfl)] at k1 k2
  have b6 : evT GG (.tv (.cmp .ne (.lc (.call 20 (.cons (.v 2) (.cons (.v 9) .nil))) (.nm 9) (.sSeq (.b 3)) .tyes) (.lc (.call 210 (.cons (.v 1) (.cons (.v 9) (.cons (.idx (.idx (.b 1) (.k (.int 2))) (.k (.int 0))) .nil)))) (.nm 9) (.sSeq (.b 3)) .tyes))) [some (.val (iL ns)), some (.val (encP c)), some (.val (encC c)), some (.val W), none, none, none, none, none, none] = .ok false :=
    t_v (x_cmp (a := .lst ((pts (allR c) c.limit).map g)) (b := .lst ((pts (allR c) c.limit).map g)) (x_lc (xs := (pts (allR c) c.limit).map rowD) (i_seq (d := W) rfl sW) (by simp; omega) k1) (x_lc (xs := (pts (allR c) c.limit).map rowD) (i_seq (d := W) rfl sW) (by simp; omega) k2) (ne_refl (lst_lay (n := 0) (fun w hw => (hg w hw).2.2) (by decide))))
  have b7 : evS GG (.asg (.nm 4) (.call 202 (.cons (.v 0) (.cons (.k (.int 40)) (.cons (.call 208 (.cons (.v 1) .nil)) .nil))))) [some (.val (iL ns)), some (.val (encP c)), some (.val (encC c)), some (.val W), none, none, none, none, none, none] = .nx (wS ns c W s none none none none) := q_asg (d := stD s) rfl (x_call (ds := [iL ns, .int 40, .lst ((seen c c.a [] []).map stD)]) (l_cons rfl (l_cons rfl (l_one (x_call (ds := [encP c]) rfl f208)))) e4) rfl
  have b8 : evI GG (.sRng (.k (.int 0)) (.k (.int 8))) (wS ns c W s none none none none) = .ok (([0, 1, 2, 3, 4, 5, 6, 7] : List Int).map .int) := by
    have r : evI GG (.sRng (.k (.int 0)) (.k (.int 8))) (wS ns c W s none none none none) = .ok (rngD 0 ((8 : Int) - 0).toNat) := i_rng (x := .k (.int 0)) (y := .k (.int 8)) (by simp [ev]) (by simp [ev]) ⟨by omega, by omega⟩ ⟨by omega, by omega⟩
    rw [r]
    rfl
  refine q_body (o := .rt (.bl true)) rfl (q_seq b1 (q_seq b2 (q_seq (q_iffF b3 q_nil) (q_seq b4 (q_seq (q_iffF b5 q_nil) (q_seq (q_iffF b6 q_nil) (q_seq b7 ?_)))))))
  rcases walk_loop ns hc W [0, 1, 2, 3, 4, 5, 6, 7] s none none none none (by decide) hs with e | ⟨st, e⟩
  · exact q_seqR (q_for b8 e)
  · exact q_seq (q_for b8 e) (q_seqR (q_ret rfl rfl))
end K01

namespace K01
open PySem PySem.W PySem.Calls PyProof.Rows Z
theorem cx_law (w : World) (P : Program) (H : L2.Hp) (s : Shared) (e : Value) (s' : Shared) (h : L2.CX P w [] H s (fun _ _ _ => False) e s') : False := cx_no h
end K01
open PySem PySem.W PySem.Calls PyProof.Rows Z
theorem PySem.Challenge.cw_shutroads_k01_whole_walks_holds : PySem.Challenge.rw_shutroads_k01_whole_walks.Holds := by
  w_on; o_law
  refine HandSHeadRun.head_any (r := OpenLaw.row PySem.Challenge.rw_shutroads_k01_whole_walks) (q := view (OpenLaw.row PySem.Challenge.rw_shutroads_k01_whole_walks).prog [50]) (H := K01.hk) (ob := K01.ob) (M := 6000) (loose := K01.names) (d := HandSHeadRun.topDef (OpenLaw.row PySem.Challenge.rw_shutroads_k01_whole_walks).prog 50) (kwd := []) K01.ob_eq
    (by kernel_rfl) (fun s => by kernel_rfl) K01.run (by kernel_rfl) (by kernel_rfl) (by kernel_rfl) (by rfl) (by first | assumption | decide +kernel) (by decide +kernel) ⟨rfl, rfl, rfl, rfl, rfl, by decide +kernel⟩ ?hw ?hc
  case hw => w_witness2
  case hc =>
    refine LamX.walk_ofTsE (l := PySem.Challenge.rw_shutroads_k01_whole_walks) (n := 63) (k := K01.T.lev 213) (x := "_law_script") (CX := fun w => L2.CX (PySem.Challenge.rw_shutroads_k01_whole_walks).prog w) rfl (by decide) (by kernel_rfl) ⟨rfl, by decide, by decide⟩ ?F (fun w H s e s' h => K01.cx_law w _ H s e s' h)
    intro w mg fa h Y G hmg0
    obtain ⟨K, KX, sz⟩ := Y
    have hmg : mg ("law" : PySem.Str) = some (.ref fa) := by
      have e : (HandSHeadRun.topDef (OpenLaw.row PySem.Challenge.rw_shutroads_k01_whole_walks).prog 50).name = ("law" : PySem.Str) := by kernel_rfl
      rw [← e]
      exact hmg0
    refine ⟨K, KX, law_at (T := K01.T) (ir := K01.irs) (n := 8) (lf := K01.l_law) (d := K01.d_law) (g := 213) KX G K01.okT sz K01.all_ok rfl rfl K01.ok_law rfl rfl rfl ?_ fun ns _ => K01.law_true ns⟩
    have fx := fx_of (mg := mg) KX G sz.more K01.okT sz.defs
    have e := (fx.fns ("law" : PySem.Str) 213 (by decide +kernel)).1
    rw [hmg] at e
    cases e
    rfl
