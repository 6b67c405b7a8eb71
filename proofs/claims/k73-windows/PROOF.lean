import PyProof.Rows.All
import Wide.All
import OpenK.AllK
import Wide.FinOn
import KE.KStateDown
import HandS.Base
import HandS.Call
import HandS.List
import HandS.Comp
import HandS.Dict
import HandS.Iter
import HandS.Text
import HandS.Ends
import HandS.More
import HandS.Words
import HandS.Exc
import HandS.WordsExc
import HandS.Defaults
import HandS.Flow
import HandS.Wide
import HandS.TupAny
import HandS.TupMul
import HandS.Zip
import HandS.NoneIn
import HandS.Rev
import HandS.RevTup
import HandS.RevRange
import HandS.Style
import PyProof.ReprReads
import HandS.IsInst
import HandS.SortInts
import HandS.SortRule
import HandS.Head0
import HandS.Head1
import HandS.Head2
import HandS.HeadEnd
import HandS.HeadHook1
import HandS.HeadHook2
import HandS.TupSets
import KE.KTupSum
import PyProof.WalkInts
import KE.KDictList
import PyProof.ReprRoads
import HandS.RaiseMore
import KE.GoesMore
import KE.GoesEnum
import PySem.Challenge.RW_costsahead_k73_whole_windows_beside_queu
import KE.BitLaws
import HandS.FStrTup
set_option Elab.async false
set_option linter.all false
set_option maxRecDepth 100000
/-! CZ1: a small pure language and what it means (plain Lean). -/
namespace CZ
open PySem

/-- data: scalars, tuples, lists that nobody changes any more, references into the store, the script -/
inductive D where
  | non | bl (b : Bool) | int (i : Int) | str (s : Str) | tup (xs : List D) | lst (xs : List D) | ref (i : Nat) | scr (ns : List Int) | emp

/-- an object that may change -/
inductive MO where
  | lst (xs : List D) | dct (kvs : List (D × D)) | dead
abbrev Store := List MO
structure Xn where
  cls : Str
  args : List D
inductive Res (α : Type) where
  | ok (a : α) (M : Store) | er (x : Xn) (M : Store) | no
def Res.bind {α β : Type} (r : Res α) (f : α → Store → Res β) : Res β :=
  match r with
  | .ok a M => f a M
  | .er x M => .er x M
  | .no => .no
@[simp] theorem Res.bind_ok {α β : Type} (a : α) (M : Store) (f : α → Store → Res β) : (Res.ok a M).bind f = f a M := Eq.trans rfl rfl
@[simp] theorem Res.bind_er {α β : Type} (x : Xn) (M : Store) (f : α → Store → Res β) : (Res.er x M).bind f = .er x M := Eq.trans rfl rfl
@[simp] theorem Res.bind_no {α β : Type} (f : α → Store → Res β) : (Res.no).bind f = .no := Eq.trans rfl rfl
theorem Res.bind_eq_ok {α β : Type} {r : Res α} {f : α → Store → Res β} {b : β} {M : Store} (h : r.bind f = .ok b M) : ∃ a M1, r = .ok a M1 ∧ f a M1 = .ok b M := by
  cases r with
  | ok a M1 => exact ⟨a, M1, rfl, h⟩
  | er x M1 => cases h
  | no => cases h
def opt {α : Type} (o : Option α) (M : Store) : Res α := match o with
  | some a => .ok a M
  | none => .no
@[simp] theorem opt_some {α : Type} (a : α) (M : Store) : opt (some a) M = .ok a M := Eq.trans rfl rfl
@[simp] theorem opt_none {α : Type} (M : Store) : opt (none : Option α) M = .no := Eq.trans rfl rfl
theorem opt_eq_ok {α : Type} {o : Option α} {M M' : Store} {a : α} (h : opt o M = .ok a M') : o = some a ∧ M = M' := by
  cases o with
  | none => cases h
  | some b => cases h; exact ⟨rfl, rfl⟩

/-! ### data -/
mutual
/-- all references are below k -/
def D.cl (k : Nat) : D → Bool
  | .tup xs => D.cls k xs
  | .lst xs => D.cls k xs
  | .ref i => decide (i < k)
  | _ => true
def D.cls (k : Nat) : List D → Bool
  | [] => true
  | x :: r => x.cl k && D.cls k r
end
mutual
/-- data that == is asked of: no reference, not nested deeper than k, texts of plain signs -/
def D.sh : Nat → D → Bool
  | _, .non => true
  | _, .bl _ => true
  | _, .int _ => true
  | _, .str s => PySem.PyData.canLay0 (.str s)
  | k, .tup xs => D.shs k xs
  | k, .lst xs => D.shs k xs
  | _, _ => false
def D.shs : Nat → List D → Bool
  | 0, _ => false
  | _ + 1, [] => true
  | k + 1, x :: r => x.sh k && D.shs (k + 1) r
end
mutual
def D.py : D → PyData
  | .non => .none
  | .bl b => .bool b
  | .int i => .int i
  | .str s => .str s
  | .tup xs => .tuple (D.pys xs)
  | .lst xs => .list (D.pys xs)
  | .ref _ => .none
  | .scr _ => .none
  | .emp => .none
def D.pys : List D → List PyData
  | [] => []
  | x :: r => x.py :: D.pys r
end
def eqD : D → D → Option Bool
  | .int i, .int j => some (decide (i = j))
  | .str i, .str j => some (decide (i = j))
  | .bl i, .bl j => some (decide (i = j))
  | .non, .non => some true
  | .non, .int _ => some false
  | .non, .str _ => some false
  | .non, .bl _ => some false
  | .int _, .non => some false
  | .str _, .non => some false
  | .bl _, .non => some false
  | .int _, .str _ => some false
  | .str _, .int _ => some false
  | .bl _, .str _ => some false
  | .str _, .bl _ => some false
  | x, y => if x.sh 60 && y.sh 60 then some (PyData.eqv x.py y.py) else none

/-! ### operators on data -/
inductive BO where | add | sub | mul | fdv | mod | pow | shl | shr | band | bor | bxor
inductive CO where | eq | ne | lt | le | gt | ge | isin | notin
def bop : BO → D → D → Option D
  | .add, .int i, .int j => some (.int (i + j))
  | .add, .str i, .str j => if i.length + j.length ≤ sizeLine then some (.str (i ++ j)) else none
  | .add, .tup i, .tup j => if i.length + j.length ≤ sizeLine then some (.tup (i ++ j)) else none
  | .add, .lst i, .lst j => if i.length + j.length ≤ sizeLine then some (.lst (i ++ j)) else none
  | .sub, .int i, .int j => some (.int (i - j))
  | .mul, .int i, .int j => if i.natAbs.log2 + j.natAbs.log2 < 1000000 then some (.int (i * j)) else none
  | .mul, .lst i, .int j => if -(2 ^ 63) ≤ j ∧ j < 2 ^ 63 ∧ i.length * j.toNat ≤ sizeLine then some (.lst (List.replicate j.toNat i).flatten) else none
  | .mul, .tup i, .int j => if -1000000 ≤ j ∧ j ≤ 1000 ∧ i.length ≤ 1000 ∧ i ≠ [] then some (.tup (List.replicate j.toNat i).flatten) else none
  | .fdv, .int i, .int j => if 0 < j ∧ j.natAbs.log2 < 9000 then some (.int (i / j)) else none
  | .mod, .int i, .int j => if 0 < j then some (.int (i % j)) else none
  | .pow, .int i, .int j => if 0 ≤ j ∧ j ≤ 1000000 ∧ i.natAbs < 2 ^ 64 then some (.int (i ^ j.toNat)) else none
  | .shl, .int i, .int j => if 0 ≤ j ∧ j ≤ 1000000 ∧ i.natAbs < 2 ^ 64 then some (.int (i * 2 ^ j.toNat)) else none
  | .shr, .int i, .int j => if 0 ≤ j then some (.int (i / 2 ^ j.toNat)) else none
  | .band, .int i, .int j => some (.int (Builtin.bitAnd i j))
  | .bor, .int i, .int j => some (.int (Builtin.bitOr i j))
  | .bxor, .int i, .int j => some (.int (Builtin.bitXor i j))
  | _, _, _ => none
/-- a scalar as the layer has it -/
def D.scv : D → Option L2.V
  | .non => some .non
  | .bl b => some (.bl b)
  | .int i => some (.int i)
  | .str x => some (.str x)
  | _ => none
def eqS (x y : D) : Bool := match x.scv, y.scv with
  | some u, some v => L2.eqV u v
  | _, _ => false
def inD (x y : D) : Option Bool := match y with
  | .tup ys => if x.scv.isSome && ys.all (fun z => z.scv.isSome) then some (ys.any fun z => eqS z x) else none
  | .lst ys => if x.scv.isSome && ys.all (fun z => z.scv.isSome) then some (ys.any fun z => eqS z x) else none
  | _ => none
def cop : CO → D → D → Option Bool
  | .eq, x, y => eqD x y
  | .ne, x, y => (eqD x y).map (!·)
  | .lt, .int i, .int j => some (decide (i < j))
  | .le, .int i, .int j => some (decide (i ≤ j))
  | .gt, .int i, .int j => some (decide (j < i))
  | .ge, .int i, .int j => some (decide (j ≤ i))
  | .isin, x, y => inD x y
  | .notin, x, y => (inD x y).map (!·)
  | _, _, _ => none
/-- what a value stands for where it is only read: a reference's own list -/
def D.look (M : Store) : D → D
  | .ref i => (match M[i]? with
    | some (.lst xs) => .lst xs
    | _ => .ref i)
  | d => d
/-- truth -/
def tru : D → Option Bool
  | .non => some false
  | .bl b => some b
  | .int i => some (decide (i ≠ 0))
  | .str s => if s.length ≤ sizeLine then some (decide (s.length ≠ 0)) else none
  | .tup xs => some (!xs.isEmpty)
  | .lst xs => some (!xs.isEmpty)
  | _ => none
/-- the items of what is walked -/
def items : D → Option (List D)
  | .tup xs => some xs
  | .lst xs => some xs
  | _ => none
def intsD : List D → Option (List Int)
  | [] => some []
  | .int i :: r => (intsD r).map (i :: ·)
  | _ => none
def blsD : List D → Option (List Bool)
  | [] => some []
  | .bl i :: r => (blsD r).map (i :: ·)
  | _ => none
def ixD (x y : D) : Option D := match x, y with
  | .tup xs, .int i => L2.atI xs i
  | .lst xs, .int i => L2.atI xs i
  | _, _ => none
def cut {α : Type} (xs : List α) (lo hi : Option Int) : List α := (xs.drop (HT.sIx xs.length 0 lo)).take (HT.sIx xs.length xs.length hi - HT.sIx xs.length 0 lo)
def slD (x : D) (lo hi : Option Int) : Option D := match x with
  | .tup xs => some (.tup (cut xs lo hi))
  | .lst xs => some (.lst (cut xs lo hi))
  | .scr ns => some (.lst ((cut ns lo hi).map .int))
  | _ => none

/-! ### the tree -/
inductive BI where | len | abs | min2 | max2 | sum | min1 | max1 | all | any | tuple | list | int | sorted | str
inductive MI where | append | extend | pop
inductive TN where | int | str | bool | tuple | list
inductive Tg where | nm (i : Nat) | tp (l : List Nat)
mutual
inductive C where
  | var (i : Nat) | kN | kB (b : Bool) | kI (i : Int) | kS (s : Str)
  | glo (x : Str) (d : D)
  | bin (o : BO) (a b : C) | neg (a : C)
  | cmp (o : CO) (a b : C) | chn (o p : CO) (a b c : C) | isN (a : C) | notN (a : C)
  | and (a b : C) | or (a b : C) | not (a : C) | ifx (c a b : C)
  | tup (es : Cs) | lst (r : Bool) (es : Cs)
  | idx (a b : C) | slc (a lo hi : C) | rev (a : C)
  | call (f : Str) (k : Nat) (es : Cs) | callK (f : Str) (k : Nat) (es : Cs) (ws : Cs) (p : List Nat)
  | blt (b : BI) (r : Bool) (es : Cs) | lrev (r : Bool) (a : C) | sset (r : Bool) (a : C)
  | mth (m : MI) (o : C) (es : Cs)
  | comp (r : Bool) (elt : C) (tg : Tg) (it : It) (cond : C)
  | frz (a : C) | isi (a : C) (t : TN) | rpr (a : C) | emp | binL (o : BO) (a b : C) | slcL (a lo hi : C)
inductive Cs where
  | nil | cons (c : C) (r : Cs)
inductive It where
  | seq (c : C) | rng (lo hi : C) | zip (a b : C) | enm (a : C) | rvs (a : C) | rngd (lo hi : C)
end
inductive S where
  | skip | seq (a b : S) | set (i : Nat) (c : C) | unp (is : List Nat) (c : C) | unp2 (is js : List Nat) (c : C) | par2 (i j : Nat) (a b : C) | par3 (i j l : Nat) (a b c : C)
  | sti (o i c : C) | exp (c : C) | ret (c : C) | retN | ife (c : C) (a b : S) | loop (tg : Tg) (it : It) (b : S) | while (c : C) (b : S) | brk | cnt | pass
  | gfz (i : Nat) | raise (x : Str) (es : Cs)

/-! ### what it means -/
def partC : C → D → Option (Option Int)
  | .kN, _ => some none
  | _, .int i => some (some i)
  | _, _ => none
abbrev Env' := List (Option D)
abbrev Orac := Str → List D → Store → Res D
def pairC : D → Option Int
  | .tup [.int x, .int y] => if 0 ≤ x ∧ x < 64 ∧ 0 ≤ y ∧ y < 64 then some (x * 64 + y) else none
  | _ => none
def pairsC : List D → Option (List Int)
  | [] => some []
  | d :: r => match pairC d, pairsC r with
    | some c, some cs => some (c :: cs)
    | _, _ => none
def insU (c : Int) : List Int → List Int
  | [] => [c]
  | d :: r => if c < d then c :: d :: r else if c = d then d :: r else d :: insU c r
def srtU (l : List Int) : List Int := l.foldr insU []
def unC (c : Int) : D := .tup [.int (c / 64), .int (c % 64)]
/-- sorted(set(xs)), xs pairs of small numbers -/
def ssetD (xs : List D) : Option (List D) := if xs.length < 64 then (pairsC xs).map fun cs => (srtU cs).map unC else none
def mkL (r : Bool) (xs : List D) (M : Store) : Res D := if r then .ok (.ref M.length) (M ++ [.lst xs]) else .ok (.lst xs) M
/-- a list that was made becomes one of the store -/
def newL (o : Option D) (M : Store) : Res D := match o with
  | some (.lst xs) => .ok (.ref M.length) (M ++ [.lst xs])
  | _ => .no
theorem newL_ok {o : Option D} {M M' : Store} {d : D} (h : newL o M = .ok d M') : ∃ xs, o = some (.lst xs) ∧ mkL true xs M = .ok d M' := by
  cases o with
  | none => cases h
  | some x => cases x with
    | lst xs => exact ⟨xs, rfl, h⟩
    | _ => cases h
/-- repr of what is read -/
noncomputable def rprD (d : D) : Option Str := match d with
  | .emp => some (PyData.dict []).shown
  | d => if d.sh 60 && d.py.showable && decide (d.py.shown.length ≤ sizeLine) then some d.py.shown else none
def setT (t : Tg) (d : D) (ρ : Env') : Option Env' := match t with
  | .nm i => some (ρ.set i (some d))
  | .tp l => (match d with
    | .tup xs => if xs.length = l.length then some ((l.zip xs).foldl (fun r p => r.set p.1 (some p.2)) ρ) else none
    | .lst xs => if xs.length = l.length then some ((l.zip xs).foldl (fun r p => r.set p.1 (some p.2)) ρ) else none
    | _ => none)
def setT2 (is js : List Nat) (d : D) (ρ : Env') : Option Env' := match d with
  | .tup [x, y] => (setT (.tp is) x ρ).bind fun ρ1 => setT (.tp js) y ρ1
  | _ => none
/-- all references of an object are below k -/
def moCl (k : Nat) (o : MO) : Bool := match o with
  | .lst xs => D.cls k xs
  | .dct kvs => kvs.all fun p => p.1.cl k && p.2.cl k
  | .dead => true
/-- behind a call: the store's rest -/
def callB (k : Nat) (M : Store) (r : Res D) : Res D := match r with
  | .ok d M' => if d.cl k && (M'.take k).all (moCl k) then .ok d (M'.take k ++ M.drop k) else if M.length = k then .ok d M' else .no
  | .er _ _ => .no
  | .no => .no
/-- a call: the callee has the first k objects of the store -/
def callR (Φ : Orac) (f : Str) (k : Nat) (ds : List D) (M : Store) : Res D :=
  if D.cls k ds && (M.take k).all (moCl k) && decide (k ≤ M.length) then callB k M (Φ f ds (M.take k)) else .no
/-- a list of the store becomes a value -/
def frzD (d : D) (M : Store) : Res D := match d with
  | .ref i => (match M[i]? with
    | some (.lst xs) => .ok (.lst xs) (M.set i .dead)
    | _ => .no)
  | d => .ok d M
def blt (b : BI) (r : Bool) (ds : List D) (M : Store) : Res D := match b, ds with
  | .len, [x] => (match x.look M with
    | .tup xs => .ok (.int xs.length) M
    | .lst xs => .ok (.int xs.length) M
    | .str s => if s.length ≤ sizeLine then .ok (.int s.length) M else .no
    | _ => .no)
  | .abs, [.int i] => .ok (.int (if i < 0 then -i else i)) M
  | .max2, [.int i, .int j] => .ok (.int (if j > i then j else i)) M
  | .min2, [.int i, .int j] => .ok (.int (if j < i then j else i)) M
  | .int, [.int i] => .ok (.int i) M
  | .str, [.int i] => if i.natAbs.log2 < 1920 then .ok (.str (toString i)) M else .no
  | .int, [.bl b] => .ok (.int (if b then 1 else 0)) M
  | .sum, [x] => opt ((match x.look M with
    | .lst xs => intsD xs
    | .tup xs => intsD xs
    | _ => none).map fun (ns : List Int) => D.int ns.sum) M
  | .max1, [x] => opt (match x.look M with
    | .lst xs => (match intsD xs with
      | some (n :: ns) => some (.int (ns.foldl max n))
      | _ => none)
    | .tup xs => (match intsD xs with
      | some (n :: ns) => some (.int (ns.foldl max n))
      | _ => none)
    | _ => none) M
  | .min1, [x] => opt (match x.look M with
    | .lst xs => (match intsD xs with
      | some (n :: ns) => some (.int (ns.foldl min n))
      | _ => none)
    | .tup xs => (match intsD xs with
      | some (n :: ns) => some (.int (ns.foldl min n))
      | _ => none)
    | _ => none) M
  | .all, [x] => opt ((match x.look M with
    | .lst xs => blsD xs
    | _ => none).map fun (bs : List Bool) => D.bl (bs.all id)) M
  | .any, [x] => opt ((match x.look M with
    | .lst xs => blsD xs
    | _ => none).map fun (bs : List Bool) => D.bl (bs.any id)) M
  | .tuple, [x] => (match x.look M with
    | .lst xs => .ok (.tup xs) M
    | .tup xs => .ok (.tup xs) M
    | _ => .no)
  | .list, [x] => (match x.look M with
    | .lst xs => mkL r xs M
    | .tup xs => mkL r xs M
    | _ => .no)
  | .sorted, [x] => (match x.look M with
    | .lst xs => (match intsD xs with
      | some ns => mkL r ((ns.mergeSort).map .int) M
      | none => .no)
    | _ => .no)
  | _, _ => .no
def isL (d : D) (M : Store) : Bool := match d with
  | .ref i => (match M[i]? with
    | some (.lst _) => true
    | _ => false)
  | _ => false
def mth (m : MI) (o : D) (ds : List D) (M : Store) : Res D := match m, o, ds with
  | .append, .ref i, [d] => (match M[i]? with
    | some (.lst xs) => if xs.length < sizeLine then .ok .non (M.set i (.lst (xs ++ [d]))) else .no
    | _ => .no)
  | .extend, .ref i, [d] => (match M[i]?, d.look M with
    | some (.lst xs), .lst ys => if xs.length + ys.length ≤ sizeLine then .ok .non (M.set i (.lst (xs ++ ys))) else .no
    | _, _ => .no)
  | .pop, .ref i, [] => (match M[i]? with
    | some (.lst xs) => (match xs[xs.length - 1]? with
      | some d => .ok d (M.set i (.lst xs.dropLast))
      | none => .no)
    | _ => .no)
  | _, _, _ => .no
def sti (o i d : D) (M : Store) : Res Unit := match o, i with
  | .ref a, .int k => (match M[a]? with
    | some (.lst xs) => (match L2.ixN xs.length k with
      | some j => .ok () (M.set a (.lst (xs.set j d)))
      | none => .no)
    | _ => .no)
  | _, _ => .no
def isiD (d : D) (t : TN) : Option Bool := match d, t with
  | .non, _ => some false
  | .bl _, .bool => some true
  | .bl _, .int => some true
  | .bl _, _ => some false
  | .int _, .int => some true
  | .int _, _ => some false
  | .str _, .str => some true
  | .str _, _ => some false
  | .tup _, .tuple => some true
  | .tup _, _ => some false
  | .lst _, .list => some true
  | .lst _, _ => some false
  | .ref _, _ => none
  | .scr _, _ => none
  | .emp, _ => some false
/-- the turns of a comprehension: from the i-th item on, what is made so far -/
def compL (fe : Env' → Store → Res D) (fc : Env' → Store → Res Bool) (tg : Tg) (ρ : Env') : List D → List D → Store → Res (List D)
  | [], acc, M => .ok acc M
  | x :: r, acc, M => match setT tg x ρ with
    | none => .no
    | some ρ' => (fc ρ' M).bind fun b M1 => if b then (fe ρ' M1).bind fun y M2 => if acc.length < sizeLine then compL fe fc tg ρ r (acc ++ [y]) M2 else .no else compL fe fc tg ρ r acc M1
def rngL (lo hi : Int) : List D := (List.range (hi - lo).toNat).map fun (i : Nat) => D.int (lo + (i : Int))
def rngDn (lo hi : Int) : List D := (List.range (lo - hi).toNat).map fun (i : Nat) => D.int (lo + (i : Int) * (-1))
def enmL : Nat → List D → List D
  | _, [] => []
  | i, x :: r => .tup [.int i, x] :: enmL (i + 1) r
/-- truth of what comes -/
def tstR (r : Res D) : Res Bool := r.bind fun d M1 => opt (tru (d.look M1)) M1
mutual
noncomputable def ev (Φ : Orac) : C → Env' → Store → Res D
  | .var i, ρ, M => (match ρ[i]? with
    | some (some d) => .ok d M
    | _ => .no)
  | .kN, _, M => .ok .non M
  | .kB b, _, M => .ok (.bl b) M
  | .kI i, _, M => .ok (.int i) M
  | .kS s, _, M => .ok (.str s) M
  | .glo _ d, _, M => .ok d M
  | .bin o a b, ρ, M => (ev Φ a ρ M).bind fun x M1 => (ev Φ b ρ M1).bind fun y M2 => opt (bop o x y) M2
  | .binL o a b, ρ, M => (ev Φ a ρ M).bind fun x M1 => (ev Φ b ρ M1).bind fun y M2 => newL (bop o x y) M2
  | .slcL a lo hi, ρ, M => (ev Φ a ρ M).bind fun x M1 => (ev Φ lo ρ M1).bind fun l M2 => (ev Φ hi ρ M2).bind fun h M3 =>
      newL ((partC lo l).bind fun l => (partC hi h).bind fun h => slD (x.look M3) l h) M3
  | .neg a, ρ, M => (ev Φ a ρ M).bind fun x M1 => (match x with
    | .int i => .ok (.int (-i)) M1
    | _ => .no)
  | .cmp o a b, ρ, M => (ev Φ a ρ M).bind fun x M1 => (ev Φ b ρ M1).bind fun y M2 => opt ((cop o (x.look M2) (y.look M2)).map .bl) M2
  | .chn o p a b c, ρ, M => (ev Φ a ρ M).bind fun x M1 => (ev Φ b ρ M1).bind fun y M2 => (match cop o x y with
    | some true => (ev Φ c ρ M2).bind fun z M3 => opt ((cop p y z).map .bl) M3
    | some false => .ok (.bl false) M2
    | none => .no)
  | .isN a, ρ, M => (ev Φ a ρ M).bind fun x M1 => .ok (.bl (match x with
    | .non => true
    | _ => false)) M1
  | .notN a, ρ, M => (ev Φ a ρ M).bind fun x M1 => .ok (.bl (match x with
    | .non => false
    | _ => true)) M1
  | .and a b, ρ, M => (ev Φ a ρ M).bind fun x M1 => (match tru (x.look M1) with
    | some true => ev Φ b ρ M1
    | some false => .ok x M1
    | none => .no)
  | .or a b, ρ, M => (ev Φ a ρ M).bind fun x M1 => (match tru (x.look M1) with
    | some false => ev Φ b ρ M1
    | some true => .ok x M1
    | none => .no)
  | .not a, ρ, M => (tstR (ev Φ a ρ M)).bind fun b M1 => .ok (.bl (!b)) M1
  | .ifx c a b, ρ, M => (tstR (ev Φ c ρ M)).bind fun t M1 => if t then ev Φ a ρ M1 else ev Φ b ρ M1
  | .tup es, ρ, M => (evs Φ es ρ M).bind fun ds M1 => if ds.length ≤ sizeLine then .ok (.tup ds) M1 else .no
  | .lst r es, ρ, M => (evs Φ es ρ M).bind fun ds M1 => if ds.length ≤ sizeLine then mkL r ds M1 else .no
  | .idx a b, ρ, M => (ev Φ a ρ M).bind fun x M1 => (ev Φ b ρ M1).bind fun y M2 => opt (ixD (x.look M2) y) M2
  | .slc a lo hi, ρ, M => (ev Φ a ρ M).bind fun x M1 => (ev Φ lo ρ M1).bind fun l M2 => (ev Φ hi ρ M2).bind fun h M3 =>
      opt ((partC lo l).bind fun l => (partC hi h).bind fun h => slD (x.look M3) l h) M3
  | .rev a, ρ, M => (ev Φ a ρ M).bind fun x M1 => (match x.look M1 with
    | .lst xs => .ok (.lst xs.reverse) M1
    | .tup xs => .ok (.tup xs.reverse) M1
    | _ => .no)
  | .call f k es, ρ, M => (evs Φ es ρ M).bind fun ds M1 => callR Φ f k ds M1
  | .callK f k es ws p, ρ, M => (evs Φ es ρ M).bind fun ds M1 => (evs Φ ws ρ M1).bind fun zs M2 => if (p.filterMap fun i => (ds ++ zs)[i]?).length = p.length then callR Φ f k (p.filterMap fun i => (ds ++ zs)[i]?) M2 else .no
  | .blt b r es, ρ, M => (evs Φ es ρ M).bind fun ds M1 => blt b r ds M1
  | .lrev r a, ρ, M => (ev Φ a ρ M).bind fun x M1 => (match x.look M1 with
    | .lst xs => mkL r xs.reverse M1
    | _ => .no)
  | .sset r a, ρ, M => (ev Φ a ρ M).bind fun x M1 => (match x.look M1 with
    | .lst xs => (match ssetD xs with
      | some ys => mkL r ys M1
      | none => .no)
    | _ => .no)
  | .mth m o es, ρ, M => (ev Φ o ρ M).bind fun x M1 => if isL x M1 then (evs Φ es ρ M1).bind fun ds M2 => mth m x ds M2 else .no
  | .comp r elt tg it cond, ρ, M => (evI Φ it ρ M).bind fun xs M1 => (compL (ev Φ elt) (fun ρ M => tstR (ev Φ cond ρ M)) tg ρ xs [] M1).bind fun ys M2 => mkL r ys M2
  | .frz a, ρ, M => (ev Φ a ρ M).bind fun x M1 => frzD x M1
  | .emp, _, M => .ok .emp M
  | .rpr a, ρ, M => (ev Φ a ρ M).bind fun x M1 => opt ((rprD (x.look M1)).map .str) M1
  | .isi a t, ρ, M => (ev Φ a ρ M).bind fun x M1 => opt ((isiD x t).map .bl) M1
noncomputable def evs (Φ : Orac) : Cs → Env' → Store → Res (List D)
  | .nil, _, M => .ok [] M
  | .cons c r, ρ, M => (ev Φ c ρ M).bind fun d M1 => (evs Φ r ρ M1).bind fun ds M2 => .ok (d :: ds) M2
noncomputable def evI (Φ : Orac) : It → Env' → Store → Res (List D)
  | .seq c, ρ, M => (ev Φ c ρ M).bind fun d M1 => opt (items d) M1
  | .rng lo hi, ρ, M => (ev Φ lo ρ M).bind fun l M1 => (ev Φ hi ρ M1).bind fun h M2 => (match l, h with
    | .int i, .int j => if -(2 ^ 62) ≤ i ∧ i < 2 ^ 62 ∧ -(2 ^ 62) ≤ j ∧ j < 2 ^ 62 then .ok (rngL i j) M2 else .no
    | _, _ => .no)
  | .zip a b, ρ, M => (ev Φ a ρ M).bind fun x M1 => (ev Φ b ρ M1).bind fun y M2 => (match x, y with
    | .tup xs, .tup ys => .ok (List.zipWith (fun u v => .tup [u, v]) xs ys) M2
    | .lst xs, .lst ys => .ok (List.zipWith (fun u v => .tup [u, v]) xs ys) M2
    | _, _ => .no)
  | .rngd lo hi, ρ, M => (ev Φ lo ρ M).bind fun l M1 => (ev Φ hi ρ M1).bind fun h M2 => (match l, h with
    | .int i, .int j => if -(2 ^ 62) ≤ i ∧ i < 2 ^ 62 ∧ -(2 ^ 62) ≤ j ∧ j < 2 ^ 62 then .ok (rngDn i j) M2 else .no
    | _, _ => .no)
  | .rvs a, ρ, M => (ev Φ a ρ M).bind fun x M1 => opt ((items x).map List.reverse) M1
  | .enm a, ρ, M => (ev Φ a ρ M).bind fun x M1 => (match x with
    | .lst xs => .ok (enmL 0 xs) M1
    | .tup xs => .ok (enmL 0 xs) M1
    | _ => .no)
end

/-- as a test -/
noncomputable def tst (Φ : Orac) (c : C) (ρ : Env') (M : Store) : Res Bool := tstR (ev Φ c ρ M)
/-! ### statements -/
inductive Fl where
  | nx (ρ : Env') | rt (d : D) | bk (ρ : Env') | ct (ρ : Env')
/-- a for's turns -/
def forL (fb : Env' → Store → Res Fl) (tg : Tg) : List D → Env' → Store → Res Fl
  | [], ρ, M => .ok (.nx ρ) M
  | x :: r, ρ, M => match setT tg x ρ with
    | none => .no
    | some ρ' => (fb ρ' M).bind fun f M1 => match f with
      | .nx ρ1 => forL fb tg r ρ1 M1
      | .ct ρ1 => forL fb tg r ρ1 M1
      | .bk ρ1 => .ok (.nx ρ1) M1
      | .rt d => .ok (.rt d) M1
def whileN (fc : Env' → Store → Res Bool) (fb : Env' → Store → Res Fl) : Nat → Env' → Store → Res Fl
  | 0, _, _ => .no
  | n + 1, ρ, M => (fc ρ M).bind fun t M1 => if t then (fb ρ M1).bind fun f M2 => (match f with
      | .nx ρ1 => whileN fc fb n ρ1 M2
      | .ct ρ1 => whileN fc fb n ρ1 M2
      | .bk ρ1 => .ok (.nx ρ1) M2
      | .rt d => .ok (.rt d) M2) else .ok (.nx ρ) M1
open Classical in
/-- the loop's end, if it has one -/
noncomputable def whileL (fc : Env' → Store → Res Bool) (fb : Env' → Store → Res Fl) (ρ : Env') (M : Store) : Res Fl :=
  if h : ∃ n, whileN fc fb n ρ M ≠ .no then whileN fc fb (Classical.choose h) ρ M else .no
noncomputable def ex (Φ : Orac) : S → Env' → Store → Res Fl
  | .skip, ρ, M => .ok (.nx ρ) M
  | .pass, ρ, M => .ok (.nx ρ) M
  | .seq a b, ρ, M => (ex Φ a ρ M).bind fun f M1 => (match f with
    | .nx ρ1 => ex Φ b ρ1 M1
    | f => .ok f M1)
  | .set i c, ρ, M => (ev Φ c ρ M).bind fun d M1 => .ok (.nx (ρ.set i (some d))) M1
  | .unp is c, ρ, M => (ev Φ c ρ M).bind fun d M1 => (match setT (.tp is) d ρ with
    | some ρ1 => .ok (.nx ρ1) M1
    | none => .no)
  | .unp2 is js c, ρ, M => (ev Φ c ρ M).bind fun d M1 => opt (setT2 is js d ρ) M1 |>.bind fun ρ1 M1 => .ok (.nx ρ1) M1
  | .par2 i j a b, ρ, M => (ev Φ a ρ M).bind fun x M1 => (ev Φ b ρ M1).bind fun y M2 => .ok (.nx ((ρ.set i (some x)).set j (some y))) M2
  | .par3 i j l a b c, ρ, M => (ev Φ a ρ M).bind fun x M1 => (ev Φ b ρ M1).bind fun y M2 => (ev Φ c ρ M2).bind fun z M3 => .ok (.nx (((ρ.set i (some x)).set j (some y)).set l (some z))) M3
  | .sti o i c, ρ, M => (ev Φ c ρ M).bind fun d M1 => (ev Φ o ρ M1).bind fun x M2 => (ev Φ i ρ M2).bind fun y M3 => (sti x y d M3).bind fun _ M4 => .ok (.nx ρ) M4
  | .exp c, ρ, M => (ev Φ c ρ M).bind fun _ M1 => .ok (.nx ρ) M1
  | .ret c, ρ, M => (ev Φ c ρ M).bind fun d M1 => .ok (.rt d) M1
  | .retN, _, M => .ok (.rt .non) M
  | .ife c a b, ρ, M => (tst Φ c ρ M).bind fun t M1 => if t then ex Φ a ρ M1 else ex Φ b ρ M1
  | .loop tg it b, ρ, M => (evI Φ it ρ M).bind fun xs M1 => forL (ex Φ b) tg xs ρ M1
  | .while c b, ρ, M => whileL (tst Φ c) (ex Φ b) ρ M
  | .brk, ρ, M => .ok (.bk ρ) M
  | .cnt, ρ, M => .ok (.ct ρ) M
  | .gfz i, ρ, M => (match ρ[i]? with
    | some (some d) => (frzD d M).bind fun d M1 => .ok (.nx (ρ.set i (some d))) M1
    | _ => .no)
  | .raise _ _, _, _ => .no
/-- a def's code: its parameters' number, its slots' number, its body -/
structure Code where
  np : Nat
  ns : Nat
  body : S
abbrev Prg := List (Str × Code)
noncomputable def run (P : Prg) : Nat → Orac
  | 0, _, _, _ => .no
  | n + 1, f, ds, M => match P.lookup f with
    | none => .no
    | some c => if ds.length = c.np then (ex (run P n) c.body (ds.map some ++ List.replicate (c.ns - ds.length) none) M).bind fun fl M1 => (match fl with
        | .rt d => .ok d M1
        | .nx _ => .ok .non M1
        | _ => .no) else .no
end CZ

set_option Elab.async false
set_option linter.all false
set_option maxRecDepth 100000
/-! CZ2: data and what stands in the abstract heap. -/
namespace CZ
open PySem PySem.Spec PyProof.Rows L2

/-- F: lists that nobody changes any more; ad: where the store's objects stand -/
structure Wd where
  F : Addr → Prop
  ad : List Addr
  H : Hp
def Mutb : HO → Bool
  | .lst _ => true
  | .dK _ => true
  | .dT _ => true
  | _ => false
structure Ext (w w' : Wd) : Prop where
  hard : ∀ a o, w.H a = some o → Mutb o = false → w'.H a = some o
  frz : ∀ a, w.F a → w'.F a
  fr : ∀ a o, w.H a = some o → (a ∉ w.ad ∨ w.F a) → w'.H a = some o
  liv : ∀ a, w'.H a = none → w.H a = none
  pre : ∃ e, w'.ad = w.ad ++ e ∧ ∀ a ∈ e, w.H a = none
  nf : ∀ a, w'.F a → w.F a ∨ w.H a = none ∨ a ∈ w.ad
theorem Ext.refl (w : Wd) : Ext w w := ⟨fun _ _ h _ => h, fun _ h => h, fun _ _ h _ => h, fun _ h => h, ⟨[], by simp, by simp⟩, fun _ h => .inl h⟩
theorem Ext.trans {w w1 w2 : Wd} (x : Ext w w1) (y : Ext w1 w2) : Ext w w2 where
  hard := fun a o h m => y.hard a o (x.hard a o h m) m
  frz := fun a h => y.frz a (x.frz a h)
  fr := fun a o h c => y.fr a o (x.fr a o h c) (by
    rcases c with c | c
    · obtain ⟨e, he, hn⟩ := x.pre
      refine .inl fun m => ?_
      rw [he] at m
      rcases List.mem_append.mp m with m | m
      · exact c m
      · rw [hn a m] at h; cases h
    · exact .inr (x.frz a c))
  liv := fun a h => x.liv a (y.liv a h)
  pre := by
    obtain ⟨e, he, hn⟩ := x.pre
    obtain ⟨e', he', hn'⟩ := y.pre
    refine ⟨e ++ e', by rw [he', he, List.append_assoc], fun a m => ?_⟩
    rcases List.mem_append.mp m with m | m
    · exact hn a m
    · exact x.liv a (hn' a m)
  nf := fun a h => by
    rcases y.nf a h with h | h | h
    · exact x.nf a h
    · exact .inr (.inl (x.liv a h))
    · obtain ⟨e, he, hn⟩ := x.pre
      rw [he] at h
      rcases List.mem_append.mp h with h | h
      · exact .inr (.inr h)
      · exact .inr (.inl (hn a h))

/-- the heap's locked part -/
def locked (H : Hp) : Hp := fun a => match H a with
  | some (.frz o u) => some (.frz o u)
  | _ => none
mutual
/-- v stands for d -/
inductive Rp (K : PySem.W.Frag) (w : Wd) : V → D → Prop where
  | non : Rp K w .non .non
  | bl (b : Bool) : Rp K w (.bl b) (.bl b)
  | int (i : Int) : Rp K w (.int i) (.int i)
  | str (x : Str) : Rp K w (.str x) (.str x)
  | tup {a : Addr} {vs : List V} {ds : List D} : w.H a = some (.tup vs) → Rps K w vs ds → Rp K w (.ref a) (.tup ds)
  | lst {a : Addr} {vs : List V} {ds : List D} : w.F a → w.H a = some (.lst vs) → Rps K w vs ds → Rp K w (.ref a) (.lst ds)
  | ref {a : Addr} {i : Nat} : w.ad[i]? = some a → Rp K w (.ref a) (.ref i)
  | scr {a : Addr} {ns : List Int} : SqL K (locked w.H) a (ns.map V.int) → Rp K w (.ref a) (.scr ns)
  | emp {a : Addr} : w.F a → w.H a = some (.dK []) → Rp K w (.ref a) .emp
inductive Rps (K : PySem.W.Frag) (w : Wd) : List V → List D → Prop where
  | nil : Rps K w [] []
  | cons {v : V} {d : D} {vs : List V} {ds : List D} : Rp K w v d → Rps K w vs ds → Rps K w (v :: vs) (d :: ds)
end
theorem Ext.at_ {w w' : Wd} (x : Ext w w') {i : Nat} {a : Addr} (h : w.ad[i]? = some a) : w'.ad[i]? = some a := by
  obtain ⟨e, he, _⟩ := x.pre
  rw [he, List.getElem?_append_left (List.getElem?_eq_some_iff.mp h).1]
  exact h
theorem locked_ext {w w' : Wd} (x : Ext w w') {a : Addr} {o : HO} (h : locked w.H a = some o) : locked w'.H a = some o := by
  unfold locked at h ⊢
  cases q : w.H a with
  | none => rw [q] at h; cases h
  | some u =>
    rw [q] at h
    cases u with
    | frz ob v =>
      rw [x.hard a _ q rfl]
      exact h
    | _ => cases h
mutual
theorem Rp.mono {K : PySem.W.Frag} {w w' : Wd} (x : Ext w w') : ∀ {v : V} {d : D}, Rp K w v d → Rp K w' v d
  | _, _, .non => .non
  | _, _, .bl b => .bl b
  | _, _, .int i => .int i
  | _, _, .str i => .str i
  | _, _, .tup h r => .tup (x.hard _ _ h rfl) (Rps.mono x r)
  | _, _, .lst f h r => .lst (x.frz _ f) (x.fr _ _ h (.inr f)) (Rps.mono x r)
  | _, _, .ref h => .ref (x.at_ h)
  | _, _, .emp f h => .emp (x.frz _ f) (x.fr _ _ h (.inr f))
  | _, _, .scr h => .scr (by
    rcases h with (h | ⟨o, h⟩) | h
    · exact .inl (.inl (locked_ext x h))
    · exact .inl (.inr ⟨o, locked_ext x h⟩)
    · exact .inr h)
theorem Rps.mono {K : PySem.W.Frag} {w w' : Wd} (x : Ext w w') : ∀ {vs : List V} {ds : List D}, Rps K w vs ds → Rps K w' vs ds
  | _, _, .nil => .nil
  | _, _, .cons a b => .cons (Rp.mono x a) (Rps.mono x b)
end
mutual
/-- a smaller store's part -/
theorem Rp.cut {K : PySem.W.Frag} {w w' : Wd} {k : Nat} (hF : ∀ a, w.F a → w'.F a) (hH : w'.H = w.H) (had : ∀ i, i < k → w'.ad[i]? = w.ad[i]?) : ∀ {v : V} {d : D}, Rp K w v d → d.cl k = true → Rp K w' v d
  | _, _, .non, _ => .non
  | _, _, .bl b, _ => .bl b
  | _, _, .int i, _ => .int i
  | _, _, .str i, _ => .str i
  | _, _, .tup h r, c => .tup (by rw [hH]; exact h) (Rps.cut hF hH had r c)
  | _, _, .lst f h r, c => .lst (hF _ f) (by rw [hH]; exact h) (Rps.cut hF hH had r c)
  | _, _, .ref h, c => .ref (by rw [had _ (of_decide_eq_true c)]; exact h)
  | _, _, .scr h, _ => .scr (by rw [hH]; exact h)
  | _, _, .emp f h, _ => .emp (hF _ f) (by rw [hH]; exact h)
theorem Rps.cut {K : PySem.W.Frag} {w w' : Wd} {k : Nat} (hF : ∀ a, w.F a → w'.F a) (hH : w'.H = w.H) (had : ∀ i, i < k → w'.ad[i]? = w.ad[i]?) : ∀ {vs : List V} {ds : List D}, Rps K w vs ds → D.cls k ds = true → Rps K w' vs ds
  | _, _, .nil, _ => .nil
  | _, _, .cons a b, c => by
    have c' : (D.cl k _ && D.cls k _) = true := c
    rw [Bool.and_eq_true] at c'
    exact .cons (Rp.cut hF hH had a c'.1) (Rps.cut hF hH had b c'.2)
end
theorem Rps.length {K : PySem.W.Frag} {w : Wd} : ∀ {vs : List V} {ds : List D}, Rps K w vs ds → vs.length = ds.length
  | _, _, .nil => rfl
  | _, _, .cons _ b => congrArg (· + 1) b.length
theorem Rps.get {K : PySem.W.Frag} {w : Wd} : ∀ {vs : List V} {ds : List D} {i : Nat} {d : D}, Rps K w vs ds → ds[i]? = some d → ∃ v, vs[i]? = some v ∧ Rp K w v d
  | _, _, _, _, .nil, e => by simp at e
  | _, _, 0, _, .cons a _, e => by
    have e' : _ = _ := Option.some.inj e
    subst e'
    exact ⟨_, rfl, a⟩
  | _, _, i + 1, d, .cons _ b, e => by
    obtain ⟨v, h1, h2⟩ := Rps.get (i := i) (d := d) b (by simpa using e)
    exact ⟨v, by simpa using h1, h2⟩
theorem Rps.append {K : PySem.W.Frag} {w : Wd} : ∀ {vs us : List V} {ds es : List D}, Rps K w vs ds → Rps K w us es → Rps K w (vs ++ us) (ds ++ es)
  | _, _, _, _, .nil, r => r
  | _, _, _, _, .cons a b, r => .cons a (b.append r)
theorem Rps.drop {K : PySem.W.Frag} {w : Wd} : ∀ {vs : List V} {ds : List D} (n : Nat), Rps K w vs ds → Rps K w (vs.drop n) (ds.drop n)
  | _, _, 0, r => r
  | _, _, _ + 1, .nil => .nil
  | _, _, n + 1, .cons _ b => b.drop n
theorem Rps.take {K : PySem.W.Frag} {w : Wd} : ∀ {vs : List V} {ds : List D} (n : Nat), Rps K w vs ds → Rps K w (vs.take n) (ds.take n)
  | _, _, 0, _ => .nil
  | _, _, _ + 1, .nil => .nil
  | _, _, n + 1, .cons a b => .cons a (b.take n)
theorem Rps.set {K : PySem.W.Frag} {w : Wd} {v : V} {d : D} (r : Rp K w v d) : ∀ {vs : List V} {ds : List D} (i : Nat), Rps K w vs ds → Rps K w (vs.set i v) (ds.set i d)
  | _, _, _, .nil => .nil
  | _, _, 0, .cons _ b => .cons r b
  | _, _, i + 1, .cons a b => .cons a (b.set r i)
theorem Rps.reverse {K : PySem.W.Frag} {w : Wd} : ∀ {vs : List V} {ds : List D}, Rps K w vs ds → Rps K w vs.reverse ds.reverse
  | _, _, .nil => .nil
  | _, _, .cons a b => by
    rw [List.reverse_cons, List.reverse_cons]
    exact b.reverse.append (.cons a .nil)
theorem Rps.dropLast {K : PySem.W.Frag} {w : Wd} {vs : List V} {ds : List D} (r : Rps K w vs ds) : Rps K w vs.dropLast ds.dropLast := by
  rw [List.dropLast_eq_take, List.dropLast_eq_take, r.length]
  exact r.take _
theorem Rps.replicate {K : PySem.W.Frag} {w : Wd} {vs : List V} {ds : List D} (r : Rps K w vs ds) : ∀ n : Nat, Rps K w (List.replicate n vs).flatten (List.replicate n ds).flatten
  | 0 => .nil
  | n + 1 => by
    rw [List.replicate_succ, List.replicate_succ, List.flatten_cons, List.flatten_cons]
    exact r.append (r.replicate n)
theorem Rps.ints {K : PySem.W.Frag} {w : Wd} : ∀ {vs : List V} {ds : List D} {ns : List Int}, Rps K w vs ds → intsD ds = some ns → vs = ns.map V.int
  | _, _, _, .nil, h => by cases h; rfl
  | _, _, ns, .cons (d := d) a b, h => by
    cases d with
    | int i =>
      cases a
      unfold intsD at h
      obtain ⟨ms, h1, h2⟩ := Option.map_eq_some_iff.mp h
      subst h2
      rw [b.ints h1]; rfl
    | _ => cases h
theorem Rps.bls {K : PySem.W.Frag} {w : Wd} : ∀ {vs : List V} {ds : List D} {ns : List Bool}, Rps K w vs ds → blsD ds = some ns → vs = ns.map V.bl
  | _, _, _, .nil, h => by cases h; rfl
  | _, _, ns, .cons (d := d) a b, h => by
    cases d with
    | bl i =>
      cases a
      unfold blsD at h
      obtain ⟨ms, h1, h2⟩ := Option.map_eq_some_iff.mp h
      subst h2
      rw [b.bls h1]; rfl
    | _ => cases h
theorem Rps.of_ints {K : PySem.W.Frag} {w : Wd} : ∀ ns : List Int, Rps K w (ns.map V.int) (ns.map D.int)
  | [] => .nil
  | n :: ns => .cons (.int n) (Rps.of_ints ns)

/-- an object of the store -/
def Ro (K : PySem.W.Frag) (w : Wd) (a : Addr) : MO → Prop
  | .lst ds => ∃ vs, w.H a = some (.lst vs) ∧ ¬ w.F a ∧ Rps K w vs ds
  | .dct _ => False
  | .dead => True
structure RS (K : PySem.W.Frag) (w : Wd) (M : Store) : Prop where
  len : w.ad.length = M.length
  nd : w.ad.Nodup
  ne : ∀ a ∈ w.ad, w.H a ≠ none
  fne : ∀ a, w.F a → w.H a ≠ none
  obj : ∀ (i : Nat) (o : MO) (a : Addr), M[i]? = some o → w.ad[i]? = some a → Ro K w a o
structure RE (K : PySem.W.Frag) (w : Wd) (σ : L2.St) (ρ : Env') : Prop where
  len : σ.length = ρ.length
  val : ∀ (i : Nat) (d : D), ρ[i]? = some (some d) → ∃ v, σ[i]? = some (some v) ∧ Rp K w v d
theorem RE.mono {K : PySem.W.Frag} {w w' : Wd} (x : Ext w w') {σ : L2.St} {ρ : Env'} (r : RE K w σ ρ) : RE K w' σ ρ := ⟨r.len, fun i d h => let ⟨v, a, b⟩ := r.val i d h; ⟨v, a, b.mono x⟩⟩
theorem RE.set {K : PySem.W.Frag} {w : Wd} {σ : L2.St} {ρ : Env'} {v : V} {d : D} (r : RE K w σ ρ) (i : Nat) (h : Rp K w v d) : RE K w (σ.set i (some v)) (ρ.set i (some d)) := by
  refine ⟨by rw [List.length_set, List.length_set, r.len], fun j e hj => ?_⟩
  by_cases q : i = j
  · subst q
    by_cases hl : i < ρ.length
    · rw [List.getElem?_set_self hl] at hj
      cases hj
      exact ⟨v, List.getElem?_set_self (by rw [r.len]; exact hl), h⟩
    · rw [List.getElem?_eq_none (by simpa using hl)] at hj; cases hj
  · rw [List.getElem?_set_ne q] at hj ⊢
    exact r.val j e hj
theorem RS.get {K : PySem.W.Frag} {w : Wd} {M : Store} (r : RS K w M) {i : Nat} {o : MO} (h : M[i]? = some o) : ∃ a, w.ad[i]? = some a ∧ Ro K w a o := by
  have hi : i < w.ad.length := by rw [r.len]; exact (List.getElem?_eq_some_iff.mp h).1
  exact ⟨_, List.getElem?_eq_getElem hi, r.obj i o _ h (List.getElem?_eq_getElem hi)⟩
/-- a new object that is none of the store's -/
theorem RS.fresh {K : PySem.W.Frag} {w : Wd} {M : Store} (r : RS K w M) {p : Addr} {o : HO} (hp : w.H p = none) : Ext w ⟨w.F, w.ad, upd w.H p o⟩ ∧ RS K ⟨w.F, w.ad, upd w.H p o⟩ M := by
  have x : Ext w ⟨w.F, w.ad, upd w.H p o⟩ := by
    have keep : ∀ a o', w.H a = some o' → upd w.H p o a = some o' := fun a o' h => by rw [upd_ne (ne_of_none h hp)]; exact h
    refine ⟨fun a o' h _ => keep a o' h, fun _ h => h, fun a o' h _ => keep a o' h, fun a h => ?_, ⟨[], by simp, by simp⟩, fun _ h => .inl h⟩
    cases q : w.H a with
    | none => rfl
    | some u => rw [show (⟨w.F, w.ad, upd w.H p o⟩ : Wd).H a = some u from keep a u q] at h; cases h
  refine ⟨x, r.len, r.nd, fun a ha h => r.ne a ha (x.liv a h), fun a hf h => r.fne a hf (x.liv a h), fun i ob a h1 h2 => ?_⟩
  have q := r.obj i ob a h1 h2
  cases ob with
  | lst ds =>
    obtain ⟨vs, e1, e2, e3⟩ := q
    refine ⟨vs, ?_, e2, e3.mono x⟩
    show upd w.H p o a = _
    rw [upd_ne (ne_of_none e1 hp)]; exact e1
  | dct _ => exact q.elim
  | dead => trivial
/-- a new list that nobody will change -/
theorem RS.freshL {K : PySem.W.Frag} {w : Wd} {M : Store} (r : RS K w M) {p : Addr} {vs : List V} {ds : List D} (hp : w.H p = none) (h : Rps K w vs ds) :
    ∃ w', w'.H = upd w.H p (.lst vs) ∧ Ext w w' ∧ RS K w' M ∧ Rp K w' (.ref p) (.lst ds) := by
  obtain ⟨x, r1⟩ := r.fresh (o := .lst vs) hp
  have hF : ∀ a, w.F a → a ≠ p := fun a f e => r.fne a f (by rw [e]; exact hp)
  have x2 : Ext w ⟨fun a => w.F a ∨ a = p, w.ad, upd w.H p (.lst vs)⟩ := ⟨x.hard, fun a f => .inl f, x.fr, x.liv, ⟨[], by simp, by simp⟩, fun a f => by
    rcases f with f | f
    · exact .inl f
    · exact .inr (.inl (by rw [f]; exact hp))⟩
  refine ⟨⟨fun a => w.F a ∨ a = p, w.ad, upd w.H p (.lst vs)⟩, rfl, x2, ⟨r.len, r.nd, fun a ha h => r.ne a ha (x.liv a h), fun a hf h => ?_, fun i ob a h1 h2 => ?_⟩, .lst (.inr rfl) upd_same (h.mono x2)⟩
  · rcases hf with f | f
    · exact r.fne a f (x.liv a h)
    · rw [f] at h
      have h' : upd w.H p (.lst vs) p = none := h
      rw [upd_same] at h'; cases h'
  · have q := r.obj i ob a h1 h2
    cases ob with
    | lst ds =>
      obtain ⟨us, e1, e2, e3⟩ := q
      refine ⟨us, ?_, fun f => ?_, e3.mono x2⟩
      · show upd w.H p _ a = _
        rw [upd_ne (ne_of_none e1 hp)]; exact e1
      · rcases f with f | f
        · exact e2 f
        · rw [f, hp] at e1; cases e1
    | dct _ => exact q.elim
    | dead => trivial
/-- a new empty dict that nobody will change -/
theorem RS.freshE {K : PySem.W.Frag} {w : Wd} {M : Store} (r : RS K w M) {p : Addr} (hp : w.H p = none) :
    ∃ w', w'.H = upd w.H p (.dK []) ∧ Ext w w' ∧ RS K w' M ∧ Rp K w' (.ref p) .emp := by
  obtain ⟨x, r1⟩ := r.fresh (o := .dK []) hp
  have hF : ∀ a, w.F a → a ≠ p := fun a f e => r.fne a f (by rw [e]; exact hp)
  have x2 : Ext w ⟨fun a => w.F a ∨ a = p, w.ad, upd w.H p (.dK [])⟩ := ⟨x.hard, fun a f => .inl f, x.fr, x.liv, ⟨[], by simp, by simp⟩, fun a f => by
    rcases f with f | f
    · exact .inl f
    · exact .inr (.inl (by rw [f]; exact hp))⟩
  refine ⟨⟨fun a => w.F a ∨ a = p, w.ad, upd w.H p (.dK [])⟩, rfl, x2, ⟨r.len, r.nd, fun a ha h => r.ne a ha (x.liv a h), fun a hf h => ?_, fun i ob a h1 h2 => ?_⟩, .emp (.inr rfl) upd_same⟩
  · rcases hf with f | f
    · exact r.fne a f (x.liv a h)
    · rw [f] at h
      have h' : upd w.H p (.dK []) p = none := h
      rw [upd_same] at h'; cases h'
  · have q := r.obj i ob a h1 h2
    cases ob with
    | lst ds =>
      obtain ⟨us, e1, e2, e3⟩ := q
      refine ⟨us, ?_, fun f => ?_, e3.mono x2⟩
      · show upd w.H p _ a = _
        rw [upd_ne (ne_of_none e1 hp)]; exact e1
      · rcases f with f | f
        · exact e2 f
        · rw [f, hp] at e1; cases e1
    | dct _ => exact q.elim
    | dead => trivial
/-- a new list of the store -/
theorem RS.push {K : PySem.W.Frag} {w : Wd} {M : Store} (r : RS K w M) {p : Addr} {vs : List V} {ds : List D} (hp : w.H p = none) (h : Rps K w vs ds) :
    ∃ w', w'.H = upd w.H p (.lst vs) ∧ Ext w w' ∧ RS K w' (M ++ [.lst ds]) ∧ Rp K w' (.ref p) (.ref M.length) := by
  obtain ⟨x, r1⟩ := r.fresh (o := .lst vs) hp
  have x2 : Ext w ⟨w.F, w.ad ++ [p], upd w.H p (.lst vs)⟩ := ⟨x.hard, x.frz, x.fr, x.liv, ⟨[p], rfl, fun a ha => by rw [List.mem_singleton.mp ha]; exact hp⟩, x.nf⟩
  have hpn : p ∉ w.ad := fun m => r.ne p m hp
  refine ⟨⟨w.F, w.ad ++ [p], upd w.H p (.lst vs)⟩, rfl, x2, ⟨by simp [r.len], ?_, fun a ha h => ?_, fun a hf h => r.fne a hf (x.liv a h), fun i ob a h1 h2 => ?_⟩, .ref ?_⟩
  · rw [List.nodup_append]
    refine ⟨r.nd, by simp, fun a ha b hb e => ?_⟩
    rw [List.mem_singleton.mp hb] at e
    exact hpn (e ▸ ha)
  · rcases List.mem_append.mp ha with m | m
    · exact r.ne a m (x.liv a h)
    · rw [List.mem_singleton.mp m] at h
      have h' : upd w.H p (.lst vs) p = none := h
      rw [upd_same] at h'; cases h'
  · by_cases hi : i < M.length
    · rw [List.getElem?_append_left hi] at h1
      rw [List.getElem?_append_left (by rw [r.len]; exact hi)] at h2
      have q := r.obj i ob a h1 h2
      cases ob with
      | lst ds =>
        obtain ⟨us, e1, e2, e3⟩ := q
        refine ⟨us, ?_, e2, e3.mono x2⟩
        show upd w.H p _ a = _
        rw [upd_ne (ne_of_none e1 hp)]; exact e1
      | dct _ => exact q.elim
      | dead => trivial
    · rw [List.getElem?_append_right (by omega)] at h1
      rw [List.getElem?_append_right (by rw [r.len]; omega), r.len] at h2
      by_cases hj : i - M.length = 0
      · rw [hj] at h1 h2
        cases h1; cases h2
        refine ⟨vs, upd_same, fun f => r.fne _ f hp, h.mono x2⟩
      · rw [List.getElem?_eq_none (by simp; omega)] at h1; cases h1
  · show (w.ad ++ [p])[M.length]? = some p
    rw [← r.len, List.getElem?_concat_length]
/-- an object of the store is changed -/
theorem RS.wr {K : PySem.W.Frag} {w : Wd} {M : Store} (r : RS K w M) {i : Nat} {a : Addr} {vs us : List V} {ds es : List D} (h : M[i]? = some (.lst ds)) (ha : w.ad[i]? = some a) (h' : Rps K w us es) :
    ∃ w', w'.H = upd w.H a (.lst us) ∧ Ext w w' ∧ RS K w' (M.set i (.lst es)) := by
  obtain ⟨vs, e1, e2, e3⟩ := r.obj i _ a h ha
  have ham : a ∈ w.ad := List.mem_of_getElem? ha
  have x : Ext w ⟨w.F, w.ad, upd w.H a (.lst us)⟩ := by
    refine ⟨fun b o hb m => ?_, fun _ f => f, fun b o hb c => ?_, fun b hb => ?_, ⟨[], by simp, by simp⟩, fun _ f => .inl f⟩
    · show upd w.H a _ b = _
      rw [upd_ne (fun e => by rw [e, e1] at hb; cases hb; cases m)]; exact hb
    · show upd w.H a _ b = _
      rw [upd_ne (fun e => by
        subst e
        rcases c with c | c
        · exact c ham
        · exact e2 c)]
      exact hb
    · by_cases e : b = a
      · rw [e, show (⟨w.F, w.ad, upd w.H a (.lst us)⟩ : Wd).H a = some (.lst us) from upd_same] at hb; cases hb
      · rw [show (⟨w.F, w.ad, upd w.H a (.lst us)⟩ : Wd).H b = w.H b from upd_ne e] at hb; exact hb
  refine ⟨⟨w.F, w.ad, upd w.H a (.lst us)⟩, rfl, x, ⟨by simp [r.len], r.nd, fun b hb h => r.ne b hb (x.liv b h), fun b hf h => r.fne b hf (x.liv b h), fun j ob b h1 h2 => ?_⟩⟩
  by_cases hj : i = j
  · subst hj
    rw [List.getElem?_set_self (List.getElem?_eq_some_iff.mp h).1] at h1
    cases h1
    have : a = b := Option.some.inj (ha.symm.trans h2)
    subst this
    exact ⟨us, upd_same, e2, h'.mono x⟩
  · rw [List.getElem?_set_ne hj] at h1
    have q := r.obj j ob b h1 h2
    cases ob with
    | lst ds =>
      obtain ⟨us', e1', e2', e3'⟩ := q
      refine ⟨us', ?_, e2', e3'.mono x⟩
      have nb : b ≠ a := fun e => by
        subst e
        exact hj ((List.getElem?_inj (List.getElem?_eq_some_iff.mp ha).1 r.nd).mp (ha.trans h2.symm))
      show upd w.H a _ b = _
      rw [upd_ne nb]; exact e1'
    | dct _ => exact q.elim
    | dead => trivial
/-- a list of the store becomes a value -/
theorem RS.freeze {K : PySem.W.Frag} {w : Wd} {M : Store} (r : RS K w M) {i : Nat} {a : Addr} {ds : List D} (h : M[i]? = some (.lst ds)) (ha : w.ad[i]? = some a) :
    ∃ w', w'.H = w.H ∧ Ext w w' ∧ RS K w' (M.set i .dead) ∧ Rp K w' (.ref a) (.lst ds) := by
  obtain ⟨vs, e1, e2, e3⟩ := r.obj i _ a h ha
  have ham : a ∈ w.ad := List.mem_of_getElem? ha
  have x : Ext w ⟨fun b => w.F b ∨ b = a, w.ad, w.H⟩ := ⟨fun b o hb m => hb, fun _ f => .inl f, fun b o hb c => hb, fun b hb => hb, ⟨[], by simp, by simp⟩, fun b f => by
    rcases f with f | f
    · exact .inl f
    · exact .inr (.inr (by rw [f]; exact ham))⟩
  refine ⟨⟨fun b => w.F b ∨ b = a, w.ad, w.H⟩, rfl, x, ⟨by simp [r.len], r.nd, r.ne, fun b hf => ?_, fun j ob b h1 h2 => ?_⟩, .lst (.inr rfl) e1 (e3.mono x)⟩
  · rcases hf with f | f
    · exact r.fne b f
    · rw [f]; exact r.ne a ham
  · by_cases hj : i = j
    · subst hj
      rw [List.getElem?_set_self (List.getElem?_eq_some_iff.mp h).1] at h1
      cases h1
      trivial
    · rw [List.getElem?_set_ne hj] at h1
      have q := r.obj j ob b h1 h2
      cases ob with
      | lst ds =>
        obtain ⟨us', e1', e2', e3'⟩ := q
        refine ⟨us', e1', fun f => ?_, e3'.mono x⟩
        rcases f with f | f
        · exact e2' f
        · subst f
          exact hj ((List.getElem?_inj (List.getElem?_eq_some_iff.mp ha).1 r.nd).mp (ha.trans h2.symm))
      | dct _ => exact q.elim
      | dead => trivial
theorem look_ref {M : Store} {i : Nat} {ds : List D} (e : (D.ref i).look M = .lst ds) : M[i]? = some (.lst ds) := by
  have e' : (match M[i]? with
    | some (.lst xs) => D.lst xs
    | _ => .ref i) = .lst ds := e
  cases q : M[i]? with
  | none => rw [q] at e'; cases e'
  | some o =>
    rw [q] at e'
    cases o with
    | lst xs => cases e'; rfl
    | dct _ => cases e'
    | dead => cases e'
theorem look_ref' {M : Store} {i : Nat} {d : D} (e : (D.ref i).look M = d) : (∃ ds, d = .lst ds) ∨ d = .ref i := by
  have e' : (match M[i]? with
    | some (.lst xs) => D.lst xs
    | _ => .ref i) = d := e
  cases q : M[i]? with
  | none => rw [q] at e'; exact .inr e'.symm
  | some o =>
    rw [q] at e'
    cases o with
    | lst xs => exact .inl ⟨xs, e'.symm⟩
    | dct _ => exact .inr e'.symm
    | dead => exact .inr e'.symm
/-- what is read: a list's items, wherever it stands -/
theorem RS.lookL {K : PySem.W.Frag} {w : Wd} {M : Store} (r : RS K w M) {v : V} {d : D} {ds : List D} (h : Rp K w v d) (e : d.look M = .lst ds) : ∃ a vs, v = .ref a ∧ w.H a = some (.lst vs) ∧ Rps K w vs ds := by
  cases h with
  | lst f h1 h2 =>
    cases e
    exact ⟨_, _, rfl, h1, h2⟩
  | @ref a i h1 =>
    obtain ⟨vs, e1, _, e3⟩ := r.obj i _ a (look_ref e) h1
    exact ⟨a, vs, rfl, e1, e3⟩
  | _ => cases e
theorem RS.lookT {K : PySem.W.Frag} {w : Wd} {M : Store} (r : RS K w M) {v : V} {d : D} {ds : List D} (h : Rp K w v d) (e : d.look M = .tup ds) : ∃ a vs, v = .ref a ∧ w.H a = some (.tup vs) ∧ Rps K w vs ds := by
  cases h with
  | tup h1 h2 =>
    cases e
    exact ⟨_, _, rfl, h1, h2⟩
  | @ref a i h1 =>
    rcases look_ref' e with ⟨_, q⟩ | q <;> cases q
  | _ => cases e
theorem RS.sub {K : PySem.W.Frag} {w : Wd} {M : Store} (r : RS K w M) (k : Nat) (h : (M.take k).all (moCl k) = true) : RS K ⟨w.F, w.ad.take k, w.H⟩ (M.take k) := by
  refine ⟨by simp [r.len], r.nd.sublist (List.take_sublist _ _), fun a ha => r.ne a (List.mem_of_mem_take ha), r.fne, fun i o a h1 h2 => ?_⟩
  have hi : i < k := by
    have := (List.getElem?_eq_some_iff.mp h1).1
    rw [List.length_take] at this
    omega
  have hc := List.all_eq_true.mp h o (List.mem_of_getElem? h1)
  rw [List.getElem?_take_of_lt hi] at h1 h2
  have q := r.obj i o a h1 h2
  cases o with
  | lst ds =>
    obtain ⟨vs, e1, e2, e3⟩ := q
    exact ⟨vs, e1, e2, Rps.cut (w := w) (w' := ⟨w.F, w.ad.take k, w.H⟩) (k := k) (fun _ f => f) rfl (fun j hj => by show (w.ad.take k)[j]? = _; rw [List.getElem?_take_of_lt hj]) e3 hc⟩
  | dct _ => exact q.elim
  | dead => trivial
theorem sub_at {w : Wd} {k : Nat} : ∀ j, j < k → (⟨w.F, w.ad.take k, w.H⟩ : Wd).ad[j]? = w.ad[j]? := fun j hj => by
  show (w.ad.take k)[j]? = _
  rw [List.getElem?_take_of_lt hj]
/-- behind such a call -/
theorem RS.back {K : PySem.W.Frag} {w w0 : Wd} {M M0 : Store} (r : RS K w M) {k : Nat} (hk : k ≤ M.length) (x : Ext ⟨w.F, w.ad.take k, w.H⟩ w0) (r0 : RS K w0 M0) (h : (M0.take k).all (moCl k) = true) :
    ∃ w', w'.H = w0.H ∧ Ext w w' ∧ RS K w' (M0.take k ++ M.drop k) ∧ ∀ v d, Rp K w0 v d → d.cl k = true → Rp K w' v d := by
  obtain ⟨e, he, hn⟩ := x.pre
  have he : w0.ad = w.ad.take k ++ e := he
  have hkl : (w.ad.take k).length = k := by rw [List.length_take, r.len]; omega
  have had : ∀ j, j < k → w.ad[j]? = w0.ad[j]? := fun j hj => by
    rw [he, List.getElem?_append_left (by omega), List.getElem?_take_of_lt hj]
  have hlen0 : k ≤ M0.length := by
    rw [← r0.len, he, List.length_append]; omega
  have xw : Ext w ⟨w0.F, w.ad, w0.H⟩ := by
    refine ⟨x.hard, x.frz, fun a o h1 c => x.fr a o h1 ?_, x.liv, ⟨[], by simp, by simp⟩, fun a f => ?_⟩
    · rcases c with c | c
      · exact .inl fun m => c (List.mem_of_mem_take m)
      · exact .inr c
    · rcases x.nf a f with f | f | f
      · exact .inl f
      · exact .inr (.inl f)
      · exact .inr (.inr (List.mem_of_mem_take f))
  refine ⟨⟨w0.F, w.ad, w0.H⟩, rfl, xw, ⟨?_, r.nd, fun a ha h => r.ne a ha (x.liv a h), r0.fne, fun i o a h1 h2 => ?_⟩, fun v d hv hc => Rp.cut (w := w0) (w' := ⟨w0.F, w.ad, w0.H⟩) (k := k) (fun _ f => f) rfl had hv hc⟩
  · show w.ad.length = _
    rw [List.length_append, List.length_take, List.length_drop, r.len]; omega
  · by_cases hi : i < k
    · have hi' : i < (M0.take k).length := by rw [List.length_take]; omega
      rw [List.getElem?_append_left hi'] at h1
      have hc := List.all_eq_true.mp h o (List.mem_of_getElem? h1)
      rw [List.getElem?_take_of_lt hi] at h1
      have q := r0.obj i o a h1 ((had i hi).symm.trans h2)
      cases o with
      | lst ds =>
        obtain ⟨vs, e1, e2, e3⟩ := q
        exact ⟨vs, e1, e2, Rps.cut (w := w0) (w' := ⟨w0.F, w.ad, w0.H⟩) (k := k) (fun _ f => f) rfl had e3 hc⟩
      | dct _ => exact q.elim
      | dead => trivial
    · have hl : (M0.take k).length = k := by rw [List.length_take]; omega
      rw [List.getElem?_append_right (by omega), hl, List.getElem?_drop, show k + (i - k) = i by omega] at h1
      have q := r.obj i o a h1 h2
      cases o with
      | lst ds =>
        obtain ⟨vs, e1, e2, e3⟩ := q
        have hna : a ∉ w.ad.take k := fun m => by
          obtain ⟨j, hj, ej⟩ := List.mem_iff_getElem.mp m
          have hjk : j < k := by rw [hkl] at hj; exact hj
          have e4 : w.ad[j]? = some a := by
            rw [← List.getElem?_take_of_lt hjk, List.getElem?_eq_getElem hj, ej]
          have := (List.getElem?_inj (List.getElem?_eq_some_iff.mp e4).1 r.nd).mp (e4.trans h2.symm)
          omega
        refine ⟨vs, x.fr a _ e1 (.inl hna), fun f => ?_, e3.mono xw⟩
        rcases x.nf a f with f | f | f
        · exact e2 f
        · have f' : w.H a = none := f
          rw [f'] at e1; cases e1
        · exact hna f
      | dct _ => exact q.elim
      | dead => trivial
end CZ

set_option Elab.async false
set_option linter.all false
set_option maxRecDepth 100000
set_option maxHeartbeats 4000000
/-! CZ2b: tuple * int with 0 and 1; sum of a tuple; sorted(set(list of pairs)). -/
namespace CZ
open PySem PySem.Spec PyProof.Rows L2
theorem tuple_mul1 (l : Addr) (items : Array Value) (n : Nat) (dd : Option Addr) (sl : Array (Option Value)) (u : Tok) :
    Meets (Builtin.«tuple.__mul__» ⟨[.ref l, .int 1 u], []⟩) (fun _ R s => s.heap.get? l = some { cls := .type "tuple", dict := dd, data := .seq items n, slots := sl } ∧ R (.ok (.ret (Value.ref l))) s) :=
  .of_wp fun prog w A R s h => by
    obtain ⟨hp, g, d, tk, os⟩ := s
    obtain ⟨hl, h⟩ := h
    have f1 := AutoSeq1.idx_int
    have c0 : (decide ((1 : Int) < -(2 ^ 63)) || decide ((1 : Int) ≥ 2 ^ 63)) = false := by decide
    have c1 : (items.isEmpty || (1 : Int) == 1) = true := by cases items.isEmpty <;> rfl
    wp_walk using wpAny_loadPart' hl
    repeat (first
      | (refine wpAny_ite_false (decide_eq_false (by rw [c0]; exact Bool.false_ne_true)) ?_; wp_walk using wpAny_loadPart' hl)
      | (refine wpAny_ite_true (decide_eq_true (by rw [c1])) ?_; wp_walk using wpAny_loadPart' hl))
    all_goals first
      | exact ⟨_, rfl, h⟩
      | skip
theorem tuple_mul0 (l : Addr) (items : Array Value) (n : Nat) (dd : Option Addr) (sl : Array (Option Value)) (x : Int) (u : Tok) (hx : x ≤ 0) (c0 : (decide (x < -(2 ^ 63)) || decide (x ≥ 2 ^ 63)) = false) (hi : items.isEmpty = false) :
    Meets (Builtin.«tuple.__mul__» ⟨[.ref l, .int x u], []⟩) (fun _ R s => s.heap.get? l = some { cls := .type "tuple", dict := dd, data := .seq items n, slots := sl } ∧
      R (.ok (.ret (Value.ref s.heap.objs.size))) { s with heap := s.heap.push { cls := Value.type "tuple", data := Data.seq #[] }, toks := s.toks }) :=
  .of_wp fun prog w A R s h => by
    obtain ⟨hp, g, d, tk, os⟩ := s
    obtain ⟨hl, h⟩ := h
    have f1 := AutoSeq1.idx_int
    have c1 : (items.isEmpty || x == 1) = false := by rw [hi, Bool.false_or]; exact beq_eq_false_iff_ne.mpr (by omega)
    have c2 : (decide (x ≤ 0) || items.isEmpty) = true := by rw [decide_eq_true hx] <;> rfl
    wp_walk using wpAny_loadPart' hl
    repeat (first
      | (refine wpAny_ite_false (decide_eq_false (by rw [c0]; exact Bool.false_ne_true)) ?_; wp_walk using wpAny_loadPart' hl)
      | (refine wpAny_ite_false (decide_eq_false (by rw [c1]; exact Bool.false_ne_true)) ?_; wp_walk using wpAny_loadPart' hl)
      | (refine wpAny_ite_true (decide_eq_true (by rw [c2])) ?_; wp_walk using wpAny_loadPart' hl))
    all_goals first
      | exact ⟨_, rfl, h⟩
      | skip
def rRepT0 (K : PySem.W.Frag) : R2 := fun x y H Q => ∃ l k xs, x = .ref l ∧ y = .int k ∧ SqT K H l xs ∧ xs ≠ [] ∧ -1000000 ≤ k ∧ k ≤ 1000 ∧ xs.length ≤ 1000 ∧ (k = 1 → Q (.ref l) H) ∧ (k ≠ 1 → ∀ p, H p = none → Q (.ref p) (upd H p (.tup (List.replicate k.toNat xs).flatten)))
section
variable {X : Cx}
theorem op_repT0 : OpR X (binaryOp .Mult) (rRepT0 X.K) := by
  intro pins s σ H x y v u Q I rx ry h
  obtain ⟨l, k, xs, rfl, rfl, hT, hne, h0, h2, hz, q1, q⟩ := h
  by_cases h1 : 2 ≤ k
  · exact op_repT pins s σ H _ _ _ _ Q I rx ry ⟨l, k, xs, rfl, rfl, hT, hne, h1, h2, hz, q (by omega)⟩
  cases rx
  obtain ⟨t, rfl⟩ := ry
  obtain ⟨its, r, ⟨⟨cls, dd, data, sl⟩, ho, hc, n, hd⟩, hs⟩ := I.tuple hT
  simp only at hc hd
  subst hc hd
  have hle : its.length = xs.length := r.length.symm
  have hn : its ≠ [] := fun e => hne (by
    rw [e] at hle
    exact List.eq_nil_of_length_eq_zero hle.symm)
  have hi : its.toArray.isEmpty = false := by
    cases its with
    | nil => exact absurd rfl hn
    | cons a b => rfl
  have c0 : (decide (k < -(2 ^ 63)) || decide (k ≥ 2 ^ 63)) = false := by
    rw [decide_eq_false (by omega), decide_eq_false (by omega)] <;> rfl
  by_cases h3 : k = 1
  · subst h3
    refine wpAny_binaryOp_repeat_ref (T := "tuple") (U := "int") (by decide) ⟨_, ho, rfl⟩ (fun s' => typeIs_int s' 1 t) noFill_tuple_mul F.fills_int_mul F.slot_int_rmul repeat_tuple F.slot_int_index.lookup
      (call_meets F.slot_int_rmul (typeIs_int s 1 t) F.entry_int_rmul (F.args_int_rmul_2 _ _) (int_rmul_tuple 1 t l its.toArray n dd sl)
        ⟨ho, rfl, ⟨_, ho, rfl⟩, call_meets F.slot_tuple_mul ⟨_, ho, rfl⟩ F.entry_tuple_mul (F.args_tuple_mul_2 _ _) (tuple_mul1 l its.toArray n dd sl t) ⟨ho, ?_⟩⟩)
    exact ⟨.ref l, H, I, rfl, q1 rfl⟩
  · have e0 : k.toNat = 0 := by omega
    refine wpAny_binaryOp_repeat_ref (T := "tuple") (U := "int") (by decide) ⟨_, ho, rfl⟩ (fun s' => typeIs_int s' k t) noFill_tuple_mul F.fills_int_mul F.slot_int_rmul repeat_tuple F.slot_int_index.lookup
      (call_meets F.slot_int_rmul (typeIs_int s k t) F.entry_int_rmul (F.args_int_rmul_2 _ _) (int_rmul_tuple k t l its.toArray n dd sl)
        ⟨ho, rfl, ⟨_, ho, rfl⟩, call_meets F.slot_tuple_mul ⟨_, ho, rfl⟩ F.entry_tuple_mul (F.args_tuple_mul_2 _ _) (tuple_mul0 l its.toArray n dd sl k t (by omega) c0 hi) ⟨ho, ?_⟩⟩)
    refine ⟨.ref s.heap.objs.size, _, I.laid (t' := s.toks) (o := .tup (List.replicate k.toNat xs).flatten) (fun b ob q => Heap.get?_push_of_some _ q) (Nat.le_refl _) ?_, rfl, q h3 _ (I.hok.fresh (Nat.le_refl _))⟩
    rw [e0]
    exact ⟨by rw [sizeLine_eq]; exact Nat.zero_le _, [], .nil, IsTup.new _ _⟩
def rSumT (K : PySem.W.Frag) : List V → Hp → VK → Prop := fun vs H Q => ∃ (a : Addr) (ns : List Int), vs = [V.ref a] ∧ SqT K H a (ns.map V.int) ∧ Q (.int ns.sum) H
theorem cr_sumT (hc : X.calm = true) : CallR X (.builtin "sum") (rSumT X.K) := by
  intro pins s σ H vs us Q I r h
  obtain ⟨a, ns, rfl, hs, q⟩ := h
  obtain ⟨its, rv, hl, _⟩ := I.tuple hs
  rw [Vals.ref1 r]
  have hi : IntsAre its ns := rv.ints
  obtain ⟨xs, hx⟩ := hi.allInts.items
  have hn : numsOf its.toArray.toList = ns := by rw [show its.toArray.toList = its from rfl, hi.numsOf]
  rw [hx] at hl hn
  rw [nums_intItems] at hn
  refine PySem.W.ktm_sumG (I.ok.hd hc) hl fun h' tk t' hk => ?_
  rw [preSum_eq, List.take_of_length_le (by simp), hn]
  exact ⟨.int _, H, I.kept hk, ⟨_, rfl⟩, q⟩
end
/-! ### sorted(set(pairs)) -/
theorem sorted_uniq : ∀ {l m : List Int}, l.Pairwise (· < ·) → m.Pairwise (· < ·) → (∀ x, x ∈ l ↔ x ∈ m) → l = m
  | [], [], _, _, _ => rfl
  | [], y :: m, _, _, h => absurd ((h y).mpr (List.mem_cons_self ..)) (by simp)
  | x :: l, [], _, _, h => absurd ((h x).mp (List.mem_cons_self ..)) (by simp)
  | x :: l, y :: m, hl, hm, h => by
    rw [List.pairwise_cons] at hl hm
    have exy : x = y := by
      rcases List.mem_cons.mp ((h x).mp (List.mem_cons_self ..)) with e | e
      · exact e
      · rcases List.mem_cons.mp ((h y).mpr (List.mem_cons_self ..)) with e' | e'
        · exact e'.symm
        · have := hl.1 _ e'; have := hm.1 _ e; omega
    subst exy
    rw [sorted_uniq hl.2 hm.2 fun z => ⟨fun hz => ?_, fun hz => ?_⟩]
    · rcases List.mem_cons.mp ((h z).mp (List.mem_cons_of_mem _ hz)) with e | e
      · subst e; exact absurd (hl.1 _ hz) (Int.lt_irrefl _)
      · exact e
    · rcases List.mem_cons.mp ((h z).mpr (List.mem_cons_of_mem _ hz)) with e | e
      · subst e; exact absurd (hm.1 _ hz) (Int.lt_irrefl _)
      · exact e
theorem insU_mem (c : Int) : ∀ (l : List Int) (x : Int), x ∈ insU c l ↔ x = c ∨ x ∈ l
  | [], x => by simp [insU]
  | d :: r, x => by
    unfold insU
    split
    · simp
    · split
      · rename_i h; subst h; simp
      · rw [List.mem_cons, insU_mem c r x, List.mem_cons]
        constructor <;> rintro (h | h | h) <;> simp [h]
theorem insU_srt (c : Int) : ∀ {l : List Int}, l.Pairwise (· < ·) → (insU c l).Pairwise (· < ·)
  | [], _ => by simp [insU]
  | d :: r, h => by
    rw [List.pairwise_cons] at h
    unfold insU
    split
    · rename_i hc
      rw [List.pairwise_cons]
      refine ⟨fun x hx => ?_, List.pairwise_cons.mpr h⟩
      rcases List.mem_cons.mp hx with e | e
      · subst e; exact hc
      · exact Int.lt_trans hc (h.1 _ e)
    · split
      · exact List.pairwise_cons.mpr h
      · rename_i h1 h2
        refine List.pairwise_cons.mpr ⟨fun x hx => ?_, insU_srt c h.2⟩
        rcases (insU_mem c r x).mp hx with e | e
        · subst e; omega
        · exact h.1 _ e
theorem srtU_mem : ∀ (l : List Int) (x : Int), x ∈ srtU l ↔ x ∈ l
  | [], x => by simp [srtU]
  | d :: r, x => by
    show x ∈ insU d (srtU r) ↔ _
    rw [insU_mem, srtU_mem r x, List.mem_cons]
theorem srtU_srt : ∀ (l : List Int), (srtU l).Pairwise (· < ·)
  | [] => .nil
  | d :: r => insU_srt d (srtU_srt r)
/-- a pair's own -/
theorem pairC_some {K : PySem.W.Frag} {w : Wd} {v : V} {d : D} {c : Int} (p : Rp K w v d) (e : pairC d = some c) : ∃ (a : Addr) (x y : Int), v = .ref a ∧ w.H a = some (.tup [.int x, .int y]) ∧ d = .tup [.int x, .int y] ∧ c = x * 64 + y ∧ 0 ≤ x ∧ x < 64 ∧ 0 ≤ y ∧ y < 64 := by
  unfold pairC at e
  split at e
  · rename_i x y
    split at e
    · rename_i h
      cases e
      cases p with
      | tup h1 h2 =>
        cases h2 with
        | cons a b =>
          cases a
          cases b with
          | cons a b =>
            cases a
            cases b
            exact ⟨_, x, y, rfl, h1, rfl, rfl, h.1, h.2.1, h.2.2.1, h.2.2.2⟩
    · cases e
  · cases e
def codeL (p : Addr × List Int) : Int := TS.code 64 p.2
theorem pairs_ks {K : PySem.W.Frag} {w : Wd} : ∀ {vs : List V} {ds : List D} {cs : List Int}, Rps K w vs ds → pairsC ds = some cs → ∃ ks : List (Addr × List Int), vs = ks.map (fun p => V.ref p.1) ∧ ks.map codeL = cs ∧ ∀ p ∈ ks, w.H p.1 = some (.tup (p.2.map V.int)) ∧ p.2.length = 2 ∧ TS.Bd 64 p.2 ∧ Rp K w (.ref p.1) (unC (codeL p))
  | _, _, _, .nil, e => by cases e; exact ⟨[], rfl, rfl, fun p h => nomatch h⟩
  | _, _, cs, .cons (d := d) (ds := ds) a b, e => by
    have e' : (match pairC d, pairsC ds with
      | some c, some cs => some (c :: cs)
      | _, _ => none) = some cs := e
    cases q1 : pairC d with
    | none => rw [q1] at e'; cases e'
    | some c =>
      cases q2 : pairsC ds with
      | none => rw [q1, q2] at e'; cases e'
      | some cs' =>
        rw [q1, q2] at e'
        cases e'
        obtain ⟨ad, x, y, rfl, h1, rfl, rfl, b1, b2, b3, b4⟩ := pairC_some a q1
        obtain ⟨ks, rfl, rfl, h⟩ := pairs_ks b q2
        have ec : codeL (ad, [x, y]) = x * 64 + y := L2.code_pair x y
        refine ⟨(ad, [x, y]) :: ks, rfl, by rw [List.map_cons, ec], fun p hp => ?_⟩
        rcases List.mem_cons.mp hp with rfl | hp
        · refine ⟨h1, rfl, ?_, ?_⟩
          · intro z hz
            rcases List.mem_cons.mp hz with rfl | hz
            · exact ⟨b1, b2⟩
            · rcases List.mem_cons.mp hz with rfl | hz
              · exact ⟨b3, b4⟩
              · cases hz
          · rw [ec]
            have e1 : (x * 64 + y) / 64 = x := by omega
            have e2 : (x * 64 + y) % 64 = y := by omega
            unfold unC
            rw [e1, e2]
            exact a
        · exact h p hp
theorem rps_of {K : PySem.W.Frag} {w : Wd} : ∀ {L : List (Addr × List Int)}, (∀ p ∈ L, Rp K w (.ref p.1) (unC (codeL p))) → Rps K w (L.map fun p => V.ref p.1) ((L.map codeL).map unC)
  | [], _ => .nil
  | p :: L, h => .cons (h p (List.mem_cons_self ..)) (rps_of fun q hq => h q (List.mem_cons_of_mem _ hq))
theorem code_inj {p q : List Int} (hp : p.length = 2) (hq : q.length = 2) (bp : TS.Bd 64 p) (bq : TS.Bd 64 q) (e : TS.code 64 p = TS.code 64 q) : p = q := by
  match p, q, hp, hq with
  | [x, y], [x', y'], _, _ =>
    rw [L2.code_pair, L2.code_pair] at e
    have := bp x (by simp); have := bp y (by simp); have := bq x' (by simp); have := bq y' (by simp)
    have : x = x' := by omega
    have : y = y' := by omega
    subst_vars
    rfl
/-! ### max, min of a tuple -/
section
open PySem.Calls PyProof.V
section
variable {prog : Program} {w : World} {A : Around} {E : Value → Shared → Prop} {s : Shared} {t : Addr} {xs : Array (Int × Tok)}
theorem max_intTup {Q : Value → Shared → Prop} (hh : A.handled = none) (ht : s.heap.IsTuple t (intItems xs)) (hne : 0 < xs.size)
    (h : ∀ v h' tk, (intItems xs)[argBest (fun i j => decide (numAt xs i > numAt xs j)) (xs.size - 1)]? = some v → (∀ b o, s.heap.get? b = some o → h'.get? b = some o) → Q v { s with heap := h', toks := tk }) :
    wpAny (model prog w) A (call (.builtin "max") [.ref t]) Q E s := by
  obtain ⟨o, ho, hc, n, hd⟩ := id ht
  have hne' : t ≠ s.heap.objs.size := Nat.ne_of_lt (Heap.lt_size ho)
  refine call_max_walk (wpAny_pyIter_tuple ht ?_)
  refine ⟨s.heap.objs.size, _, _, _, _, _, _, rfl, Walks.tuple (A := A.in1) hh s.heap.objs.size t hne' (intItems xs), ⟨⟨_, Heap.get?_push_size _ rfl, rfl, rfl⟩, ht.at fun o e => Heap.get?_push_of_some _ e⟩, fun b hb => ?_, by simpa [intItems] using hne, CmpOf.ints_gt (numAt xs) (fun _ _ => intItems_at), fun v h' tk hP hk => ?_⟩
  · rcases List.mem_cons.mp hb with rfl | hb
    · exact Heap.lt_size (Heap.get?_push_size _ rfl)
    · obtain rfl := List.mem_singleton.mp hb
      exact Heap.lt_size (Heap.get?_push_of_some _ ho)
  · exact h v h' tk (by simpa [intItems] using hP) fun b o e => hk b o (fun hb => absurd (Heap.lt_size e) ((List.mem_singleton.mp hb) ▸ Nat.lt_irrefl _)) (Heap.get?_push_of_some _ e)
theorem min_intTup {Q : Value → Shared → Prop} (hh : A.handled = none) (ht : s.heap.IsTuple t (intItems xs)) (hne : 0 < xs.size)
    (h : ∀ v h' tk, (intItems xs)[argBest (fun i j => decide (numAt xs i < numAt xs j)) (xs.size - 1)]? = some v → (∀ b o, s.heap.get? b = some o → h'.get? b = some o) → Q v { s with heap := h', toks := tk }) :
    wpAny (model prog w) A (call (.builtin "min") [.ref t]) Q E s := by
  obtain ⟨o, ho, hc, n, hd⟩ := id ht
  have hne' : t ≠ s.heap.objs.size := Nat.ne_of_lt (Heap.lt_size ho)
  refine call_min_walk (wpAny_pyIter_tuple ht ?_)
  refine ⟨s.heap.objs.size, _, _, _, _, _, _, rfl, Walks.tuple (A := A.in1) hh s.heap.objs.size t hne' (intItems xs), ⟨⟨_, Heap.get?_push_size _ rfl, rfl, rfl⟩, ht.at fun o e => Heap.get?_push_of_some _ e⟩, fun b hb => ?_, by simpa [intItems] using hne, CmpOf.ints_lt (numAt xs) (fun _ _ => intItems_at), fun v h' tk hP hk => ?_⟩
  · rcases List.mem_cons.mp hb with rfl | hb
    · exact Heap.lt_size (Heap.get?_push_size _ rfl)
    · obtain rfl := List.mem_singleton.mp hb
      exact Heap.lt_size (Heap.get?_push_of_some _ ho)
  · exact h v h' tk (by simpa [intItems] using hP) fun b o e => hk b o (fun hb => absurd (Heap.lt_size e) ((List.mem_singleton.mp hb) ▸ Nat.lt_irrefl _)) (Heap.get?_push_of_some _ e)
end
section
variable {X : Cx}
def rMaxT (K : PySem.W.Frag) : List V → Hp → VK → Prop := fun vs H Q => ∃ (a : Addr) (ns : List Int), vs = [V.ref a] ∧ SqT K H a (ns.map V.int) ∧ 0 < ns.length ∧ ∀ m, m ∈ ns → (∀ y, y ∈ ns → y ≤ m) → Q (.int m) H
def rMinT (K : PySem.W.Frag) : List V → Hp → VK → Prop := fun vs H Q => ∃ (a : Addr) (ns : List Int), vs = [V.ref a] ∧ SqT K H a (ns.map V.int) ∧ 0 < ns.length ∧ ∀ m, m ∈ ns → (∀ y, y ∈ ns → m ≤ y) → Q (.int m) H
theorem cr_maxT (hc : X.calm = true) : CallR X (.builtin "max") (rMaxT X.K) := by
  intro pins s σ H vs us Q I r h
  obtain ⟨a, ns, rfl, hs, hne, q⟩ := h
  obtain ⟨its, rv, hl, _⟩ := I.tuple hs
  rw [Vals.ref1 r]
  have hi : IntsAre its ns := rv.ints
  obtain ⟨xs, hx⟩ := hi.allInts.items
  have hn : numsOf its.toArray.toList = ns := by rw [show its.toArray.toList = its from rfl, hi.numsOf]
  rw [hx] at hl hn
  rw [nums_intItems] at hn
  subst hn
  have hsz : 0 < xs.size := by simpa using hne
  refine max_intTup (I.ok.hd hc) hl hsz fun v h' tk hv hk => ?_
  obtain ⟨t, rfl⟩ := intItems_at hv
  obtain ⟨h1, h2⟩ := argBest_gt (numAt xs) (xs.size - 1)
  refine ⟨.int _, H, I.kept hk, ⟨_, rfl⟩, q _ ?_ fun a ha => ?_⟩
  · rw [numAt_eq]; exact PySem.getD_mem (by rw [List.length_map, Array.length_toList]; omega)
  · obtain ⟨j, hj, rfl⟩ := mem_getD ha
    rw [List.length_map, Array.length_toList] at hj
    rw [← numAt_eq]
    exact h2 j (by omega)
theorem cr_minT (hc : X.calm = true) : CallR X (.builtin "min") (rMinT X.K) := by
  intro pins s σ H vs us Q I r h
  obtain ⟨a, ns, rfl, hs, hne, q⟩ := h
  obtain ⟨its, rv, hl, _⟩ := I.tuple hs
  rw [Vals.ref1 r]
  have hi : IntsAre its ns := rv.ints
  obtain ⟨xs, hx⟩ := hi.allInts.items
  have hn : numsOf its.toArray.toList = ns := by rw [show its.toArray.toList = its from rfl, hi.numsOf]
  rw [hx] at hl hn
  rw [nums_intItems] at hn
  subst hn
  have hsz : 0 < xs.size := by simpa using hne
  refine min_intTup (I.ok.hd hc) hl hsz fun v h' tk hv hk => ?_
  obtain ⟨t, rfl⟩ := intItems_at hv
  obtain ⟨h1, h2⟩ := argBest_lt (numAt xs) (xs.size - 1)
  refine ⟨.int _, H, I.kept hk, ⟨_, rfl⟩, q _ ?_ fun a ha => ?_⟩
  · rw [numAt_eq]; exact PySem.getD_mem (by rw [List.length_map, Array.length_toList]; omega)
  · obtain ⟨j, hj, rfl⟩ := mem_getD ha
    rw [List.length_map, Array.length_toList] at hj
    rw [← numAt_eq]
    exact h2 j (by omega)
end
end
end CZ

set_option Elab.async false
set_option linter.all false
set_option maxRecDepth 100000
set_option maxHeartbeats 4000000
/-! CZ3: operators and built-in functions on data, by the layer's rules. -/
namespace CZ
open PySem PySem.Spec PyProof.Rows L2

/-- what is wanted behind: the heap may have grown, the store is M' -/
def Aft (K : PySem.W.Frag) (w : Wd) (M' : Store) (d : D) (Q : VK) : Prop := ∀ w' v, Ext w w' → RS K w' M' → Rp K w' v d → Q v w'.H
theorem Aft.here {K : PySem.W.Frag} {w : Wd} {M : Store} {d : D} {Q : VK} {v : V} {H : Hp} (a : Aft K w M d Q) (R : RS K w M) (p : Rp K w v d) (e : w.H = H := by rfl) : Q v H := by
  subst e
  exact a w v (Ext.refl w) R p
/-- a new list of a mode -/
theorem mk_new {K : PySem.W.Frag} {w : Wd} {M M' : Store} {r : Bool} {ds : List D} {vs : List V} {d : D} {Q : VK} {p : Addr} (R : RS K w M) (h : Rps K w vs ds) (e : mkL r ds M = .ok d M') (a : Aft K w M' d Q) (hp : w.H p = none) : Q (.ref p) (upd w.H p (.lst vs)) := by
  cases r with
  | true =>
    cases e
    obtain ⟨w', e1, x, R', q⟩ := R.push hp h
    rw [← e1]
    exact a w' _ x R' q
  | false =>
    cases e
    obtain ⟨w', e1, x, R', q⟩ := R.freshL hp h
    rw [← e1]
    exact a w' _ x R' q
theorem mk_tup {K : PySem.W.Frag} {w : Wd} {M : Store} {ds : List D} {vs : List V} {Q : VK} {p : Addr} (R : RS K w M) (h : Rps K w vs ds) (a : Aft K w M (.tup ds) Q) (hp : w.H p = none) : Q (.ref p) (upd w.H p (.tup vs)) := by
  obtain ⟨x, R'⟩ := R.fresh (o := .tup vs) hp
  exact a ⟨w.F, w.ad, upd w.H p (.tup vs)⟩ _ x R' (.tup upd_same (h.mono x))
theorem SqL.at_ {K : PySem.W.Frag} {H : Hp} {a : Addr} {vs : List V} (h : H a = some (.lst vs)) : SqL K H a vs := .inl (.inl h)
theorem SqT.at_ {K : PySem.W.Frag} {H : Hp} {a : Addr} {vs : List V} (h : H a = some (.tup vs)) : SqT K H a vs := .inl (.inl h)

def BO.op : BO → Operator
  | .add => .Add | .sub => .Sub | .mul => .Mult | .fdv => .FloorDiv | .mod => .Mod | .pow => .Pow | .shl => .LShift | .shr => .RShift | .band => .BitAnd | .bor => .BitOr | .bxor => .BitXor
/-- an operator's reading on data -/
def rB (K : PySem.W.Frag) (o : BO) : R2 := fun x y H Q => ∃ w M dx dy d, w.H = H ∧ RS K w M ∧ Rp K w x dx ∧ Rp K w y dy ∧ bop o dx dy = some d ∧ Aft K w M d Q
section
variable {X : Cx}
theorem opB (o : BO) : OpR X (binaryOp o.op) (rB X.K o) := by
  intro pins s σ H x y v u Q I rx ry h
  obtain ⟨w, M, dx, dy, d, rfl, R, px, py, e, k⟩ := h
  cases o with
  | add =>
    cases dx with
    | int i => cases dy with
      | int j => cases px; cases py; cases e; exact op_add _ _ _ _ _ _ _ _ _ I rx ry ⟨i, j, rfl, rfl, k.here R (.int _)⟩
      | _ => cases e
    | str i => cases dy with
      | str j =>
        cases px; cases py
        have e' : (if i.length + j.length ≤ sizeLine then some (D.str (i ++ j)) else none) = some d := e
        split at e'
        · rename_i hz
          cases e'
          exact op_add_str _ _ _ _ _ _ _ _ _ I rx ry ⟨i, j, rfl, rfl, hz, k.here R (.str _)⟩
        · cases e'
      | _ => cases e
    | tup i => cases dy with
      | tup j =>
        cases px with
        | @tup a vs _ h1 h2 =>
        cases py with
        | @tup b us _ g1 g2 =>
        have e' : (if i.length + j.length ≤ sizeLine then some (D.tup (i ++ j)) else none) = some d := e
        split at e'
        · rename_i hz
          cases e'
          refine op_catA _ _ _ _ _ _ _ _ _ I rx ry ⟨a, b, vs, us, rfl, rfl, SqT.at_ h1, SqT.at_ g1, by rw [h2.length, g2.length]; exact hz, fun q => ?_, fun _ q => ?_, fun _ _ p hp => ?_⟩
          · subst q
            cases h2
            exact k.here R (.tup g1 g2)
          · subst q
            cases g2
            rw [List.append_nil] at k
            exact k.here R (.tup h1 h2)
          · exact mk_tup R (h2.append g2) k hp
        · cases e'
      | _ => cases e
    | lst i => cases dy with
      | lst j =>
        cases px with
        | @lst a vs _ f1 h1 h2 =>
        cases py with
        | @lst b us _ f2 g1 g2 =>
        have e' : (if i.length + j.length ≤ sizeLine then some (D.lst (i ++ j)) else none) = some d := e
        split at e'
        · rename_i hz
          cases e'
          exact op_cat _ _ _ _ _ _ _ _ _ I rx ry ⟨a, b, vs, us, rfl, rfl, h1, g1, by rw [h2.length, g2.length]; exact hz, fun p hp => mk_new (r := false) R (h2.append g2) rfl k hp⟩
        · cases e'
      | _ => cases e
    | _ => cases e
  | sub =>
    cases dx with
    | int i => cases dy with
      | int j => cases px; cases py; cases e; exact op_sub _ _ _ _ _ _ _ _ _ I rx ry ⟨i, j, rfl, rfl, k.here R (.int _)⟩
      | _ => cases e
    | _ => cases e
  | mul =>
    cases dx with
    | int i => cases dy with
      | int j =>
        cases px; cases py
        have e' : (if i.natAbs.log2 + j.natAbs.log2 < 1000000 then some (D.int (i * j)) else none) = some d := e
        split at e'
        · rename_i hz
          cases e'
          exact op_mulW _ _ _ _ _ _ _ _ _ I rx ry ⟨i, j, rfl, rfl, hz, k.here R (.int _)⟩
        · cases e'
      | _ => cases e
    | lst i => cases dy with
      | int j =>
        cases px with
        | @lst a vs _ f1 h1 h2 =>
        cases py
        have e' : (if -(2 ^ 63) ≤ j ∧ j < 2 ^ 63 ∧ i.length * j.toNat ≤ sizeLine then some (D.lst (List.replicate j.toNat i).flatten) else none) = some d := e
        split at e'
        · rename_i hz
          cases e'
          exact op_rep _ _ _ _ _ _ _ _ _ I rx ry ⟨a, j, vs, rfl, rfl, h1, hz.1, hz.2.1, by rw [h2.length]; exact hz.2.2, fun p hp => mk_new (r := false) R (h2.replicate _) rfl k hp⟩
        · cases e'
      | _ => cases e
    | tup i => cases dy with
      | int j =>
        cases px with
        | @tup a vs _ h1 h2 =>
        cases py
        have e' : (if -1000000 ≤ j ∧ j ≤ 1000 ∧ i.length ≤ 1000 ∧ i ≠ [] then some (D.tup (List.replicate j.toNat i).flatten) else none) = some d := e
        split at e'
        · rename_i hz
          cases e'
          refine op_repT0 _ _ _ _ _ _ _ _ _ I rx ry ⟨a, j, vs, rfl, rfl, SqT.at_ h1, fun q => by subst q; cases h2; exact hz.2.2.2 rfl, hz.1, hz.2.1, by rw [h2.length]; exact hz.2.2.1, fun ej => ?_, fun _ p hp => mk_tup R (h2.replicate _) k hp⟩
          subst ej
          have el : (List.replicate (1 : Int).toNat i).flatten = i := by
            show (List.replicate 1 i).flatten = i
            simp
          rw [el] at k
          exact k.here R (.tup h1 h2)
        · cases e'
      | _ => cases e
    | _ => cases e
  | fdv =>
    cases dx with
    | int i => cases dy with
      | int j =>
        cases px; cases py
        have e' : (if 0 < j ∧ j.natAbs.log2 < 9000 then some (D.int (i / j)) else none) = some d := e
        split at e'
        · rename_i hz
          cases e'
          exact op_fdivW _ _ _ _ _ _ _ _ _ I rx ry ⟨i, j, rfl, rfl, hz, k.here R (.int _)⟩
        · cases e'
      | _ => cases e
    | _ => cases e
  | mod =>
    cases dx with
    | int i => cases dy with
      | int j =>
        cases px; cases py
        have e' : (if 0 < j then some (D.int (i % j)) else none) = some d := e
        split at e'
        · rename_i hz
          cases e'
          exact op_mod _ _ _ _ _ _ _ _ _ I rx ry ⟨i, j, rfl, rfl, hz, k.here R (.int _)⟩
        · cases e'
      | _ => cases e
    | _ => cases e
  | pow =>
    cases dx with
    | int i => cases dy with
      | int j =>
        cases px; cases py
        have e' : (if 0 ≤ j ∧ j ≤ 1000000 ∧ i.natAbs < 2 ^ 64 then some (D.int (i ^ j.toNat)) else none) = some d := e
        split at e'
        · rename_i hz
          cases e'
          exact op_pow _ _ _ _ _ _ _ _ _ I rx ry ⟨i, j, rfl, rfl, hz, k.here R (.int _)⟩
        · cases e'
      | _ => cases e
    | _ => cases e
  | shl =>
    cases dx with
    | int i => cases dy with
      | int j =>
        cases px; cases py
        have e' : (if 0 ≤ j ∧ j ≤ 1000000 ∧ i.natAbs < 2 ^ 64 then some (D.int (i * 2 ^ j.toNat)) else none) = some d := e
        split at e'
        · rename_i hz
          cases e'
          exact op_shl _ _ _ _ _ _ _ _ _ I rx ry ⟨i, j, rfl, rfl, hz, k.here R (.int _)⟩
        · cases e'
      | _ => cases e
    | _ => cases e
  | shr =>
    cases dx with
    | int i => cases dy with
      | int j =>
        cases px; cases py
        have e' : (if 0 ≤ j then some (D.int (i / 2 ^ j.toNat)) else none) = some d := e
        split at e'
        · rename_i hz
          cases e'
          exact op_shr _ _ _ _ _ _ _ _ _ I rx ry ⟨i, j, rfl, rfl, hz, k.here R (.int _)⟩
        · cases e'
      | _ => cases e
    | _ => cases e
  | band =>
    cases dx with
    | int i => cases dy with
      | int j => cases px; cases py; cases e; exact op_and _ _ _ _ _ _ _ _ _ I rx ry ⟨i, j, rfl, rfl, k.here R (.int _)⟩
      | _ => cases e
    | _ => cases e
  | bor =>
    cases dx with
    | int i => cases dy with
      | int j => cases px; cases py; cases e; exact op_or _ _ _ _ _ _ _ _ _ I rx ry ⟨i, j, rfl, rfl, k.here R (.int _)⟩
      | _ => cases e
    | _ => cases e
  | bxor =>
    cases dx with
    | int i => cases dy with
      | int j => cases px; cases py; cases e; exact op_xor _ _ _ _ _ _ _ _ _ I rx ry ⟨i, j, rfl, rfl, k.here R (.int _)⟩
      | _ => cases e
    | _ => cases e

/-! ### == -/
mutual
theorem dp_of {K : PySem.W.Frag} {w : Wd} : ∀ {v : V} {d : D} {k : Nat}, Rp K w v d → d.sh k = true → Dp K w.H v d.py
  | _, _, _, .non, _ => .non
  | _, _, _, .bl b, _ => .bl b
  | _, _, _, .int i, _ => .int i
  | _, _, _, .str s, _ => .str s
  | _, _, k, .tup h r, c => .tup (SqT.at_ h) (dps_of (k := k) r c)
  | _, _, k, .lst _ h r, c => .lst (SqL.at_ h) (dps_of (k := k) r c)
  | _, _, _, .ref _, c => by cases c
  | _, _, _, .scr _, c => by cases c
  | _, _, _, .emp _ _, c => by cases c
theorem dps_of {K : PySem.W.Frag} {w : Wd} : ∀ {vs : List V} {ds : List D} {k : Nat}, Rps K w vs ds → D.shs k ds = true → DpAll K w.H vs (D.pys ds)
  | _, _, _, .nil, _ => .nil
  | _, _, 0, .cons a b, c => by simp [D.shs] at c
  | _, _, k + 1, .cons a b, c => by
    have c' : (D.sh k _ && D.shs (k + 1) _) = true := c
    rw [Bool.and_eq_true] at c'
    exact .cons (dp_of a c'.1) (dps_of b c'.2)
end
mutual
theorem sh_lay : ∀ (k : Nat) (d : D), d.sh k = true → d.py.canLay0 = true ∧ d.py.depth ≤ k + 1
  | k, .non, _ => ⟨by simp [D.py, PyData.canLay0], by simp [D.py, PyData.depth]⟩
  | k, .bl b, _ => ⟨by simp [D.py, PyData.canLay0], by simp [D.py, PyData.depth]⟩
  | k, .int i, _ => ⟨by simp [D.py, PyData.canLay0], by simp [D.py, PyData.depth]⟩
  | k, .str s, h => ⟨by simpa [D.sh, D.py] using h, by simp [D.py, PyData.depth]⟩
  | k, .tup xs, h => by
    obtain ⟨h1, h2⟩ := shs_lay k xs h
    refine ⟨by simpa [D.py, PyData.canLay0] using h1, ?_⟩
    simp only [D.py, PyData.depth]
    omega
  | k, .lst xs, h => by
    obtain ⟨h1, h2⟩ := shs_lay k xs h
    refine ⟨by simpa [D.py, PyData.canLay0] using h1, ?_⟩
    simp only [D.py, PyData.depth]
    omega
  | k, .ref _, h => by cases h
  | k, .scr _, h => by cases h
  | k, .emp, h => by cases h
theorem shs_lay : ∀ (k : Nat) (ds : List D), D.shs k ds = true → PyData.canLayAll0 (D.pys ds) = true ∧ PyData.depthAll (D.pys ds) ≤ k
  | 0, _, h => by simp [D.shs] at h
  | k + 1, [], _ => ⟨by simp [D.pys, PyData.canLayAll0], by simp [D.pys, PyData.depthAll]⟩
  | k + 1, d :: ds, h => by
    have h' : (d.sh k && D.shs (k + 1) ds) = true := h
    rw [Bool.and_eq_true] at h'
    obtain ⟨a1, a2⟩ := sh_lay k d h'.1
    obtain ⟨b1, b2⟩ := shs_lay (k + 1) ds h'.2
    refine ⟨by simp [D.pys, PyData.canLayAll0, a1, b1], ?_⟩
    simp only [D.pys, PyData.depthAll]
    omega
end
theorem sh_shaped {d : D} (h : d.sh 60 = true) : SeqAt.shaped d.py = true := by
  obtain ⟨a, b⟩ := sh_lay 60 d h
  unfold SeqAt.shaped
  rw [a, decide_eq_true (by omega)]
  rfl
/-- a comparison on data (what it reads) -/
def rC (K : PySem.W.Frag) (o : CO) : R2 := fun x y H Q => ∃ w M dx dy b, w.H = H ∧ RS K w M ∧ Rp K w x dx ∧ Rp K w y dy ∧ cop o (dx.look M) (dy.look M) = some b ∧ Q (.bl b) H
def CO.op : CO → CmpOp
  | .eq => .Eq | .ne => .NotEq | .lt => .Lt | .le => .LtE | .gt => .Gt | .ge => .GtE | .isin => .In | .notin => .NotIn
theorem look_rep {K : PySem.W.Frag} {w : Wd} {M : Store} (R : RS K w M) {v : V} {d : D} (h : Rp K w v d) : ∃ v' d', d.look M = d' ∧ (v' = v ∧ (Rp K w v d' ∨ ∃ a ds vs, d' = .lst ds ∧ v = .ref a ∧ w.H a = some (.lst vs) ∧ Rps K w vs ds)) := by
  refine ⟨v, _, rfl, rfl, ?_⟩
  cases h with
  | @ref a i h1 =>
    cases q : M[i]? with
    | none => exact .inl (by simp only [D.look, q]; exact .ref h1)
    | some o =>
      cases o with
      | lst xs =>
        obtain ⟨vs, e1, _, e3⟩ := R.obj i _ a q h1
        exact .inr ⟨a, xs, vs, by simp only [D.look, q], rfl, e1, e3⟩
      | dct _ => exact .inl (by simp only [D.look, q]; exact .ref h1)
      | dead => exact .inl (by simp only [D.look, q]; exact .ref h1)
  | non => exact .inl .non
  | bl b => exact .inl (.bl b)
  | int b => exact .inl (.int b)
  | str b => exact .inl (.str b)
  | tup a b => exact .inl (.tup a b)
  | lst a b c => exact .inl (.lst a b c)
  | scr b => exact .inl (.scr b)
  | emp a b => exact .inl (.emp a b)
theorem dp_look {K : PySem.W.Frag} {w : Wd} {M : Store} (R : RS K w M) {v : V} {d : D} {k : Nat} (h : Rp K w v d) (c : (d.look M).sh k = true) : Dp K w.H v (d.look M).py := by
  obtain ⟨_, d', e, _, q⟩ := look_rep R h
  rw [e] at c ⊢
  rcases q with q | ⟨a, ds, vs, e1, e2, e3, e4⟩
  · exact dp_of q c
  · subst e1 e2
    exact .lst (SqL.at_ e3) (dps_of (k := k) e4 c)
theorem scv_look {K : PySem.W.Frag} {w : Wd} {M : Store} {v u : V} {d : D} (h : Rp K w v d) (e : (d.look M).scv = some u) : v = u := by
  cases h with
  | @ref a i h1 =>
    rcases look_ref' (M := M) (i := i) (d := (D.ref i).look M) rfl with ⟨ds, q⟩ | q <;> (rw [q] at e; cases e)
  | non => exact Option.some.inj e
  | bl b => exact Option.some.inj e
  | int b => exact Option.some.inj e
  | str b => exact Option.some.inj e
  | _ => cases e
theorem eqD_of {x y : D} {b : Bool} (e : eqD x y = some b) : (∃ u v, x.scv = some u ∧ y.scv = some v ∧ scal u v = true ∧ decide (u = v) = b) ∨ (x.sh 60 = true ∧ y.sh 60 = true ∧ PyData.eqv x.py y.py = b) := by
  have fin : ∀ {x y : D}, (if x.sh 60 && y.sh 60 then some (PyData.eqv x.py y.py) else none) = some b → (x.sh 60 = true ∧ y.sh 60 = true ∧ PyData.eqv x.py y.py = b) := fun {x y} h => by
    split at h
    · rename_i q
      rw [Bool.and_eq_true] at q
      exact ⟨q.1, q.2, Option.some.inj h⟩
    · cases h
  cases x <;> cases y <;> first
    | exact .inr (fin e)
    | (refine .inl ⟨_, _, rfl, rfl, rfl, ?_⟩; have e' := Option.some.inj e; rw [← e'] <;> simp)
theorem opC_eq (hu : X.A.units + 64 < cLine) : OpR X (compareOp .Eq) (rC X.K .eq) := by
  intro pins s σ H x y v u Q I rx ry h
  obtain ⟨w, M, dx, dy, b, rfl, R, px, py, e, q⟩ := h
  have e : eqD (dx.look M) (dy.look M) = some b := e
  rcases eqD_of e with ⟨u1, v1, a1, a2, a3, a4⟩ | ⟨c1, c2, ev⟩
  · have z1 := scv_look px a1
    have z2 := scv_look py a2
    subst z1 z2
    refine op_eq _ _ _ _ _ _ _ _ _ I rx ry ⟨a3, ?_⟩
    rw [a4]; exact q
  · refine op_eqD hu _ _ _ _ _ _ _ _ _ I rx ry ⟨_, _, dp_look R px c1, dp_look R py c2, sh_shaped c1, sh_shaped c2, ?_⟩
    rw [ev]; exact q
theorem opC_ne (hu : X.A.units + 64 < cLine) : OpR X (compareOp .NotEq) (rC X.K .ne) := by
  intro pins s σ H x y v u Q I rx ry h
  obtain ⟨w, M, dx, dy, b, rfl, R, px, py, e, q⟩ := h
  have e : (eqD (dx.look M) (dy.look M)).map (!·) = some b := e
  obtain ⟨b', e0, eb⟩ := Option.map_eq_some_iff.mp e
  subst eb
  rcases eqD_of e0 with ⟨u1, v1, a1, a2, a3, a4⟩ | ⟨c1, c2, ev⟩
  · have z1 := scv_look px a1
    have z2 := scv_look py a2
    subst z1 z2
    refine op_ne _ _ _ _ _ _ _ _ _ I rx ry ⟨a3, ?_⟩
    rw [a4]; exact q
  · refine op_neD hu _ _ _ _ _ _ _ _ _ I rx ry ⟨_, _, dp_look R px c1, dp_look R py c2, sh_shaped c1, sh_shaped c2, ?_⟩
    rw [ev]; exact q
theorem cop_ints {o : CO} {x y : D} {b : Bool} (e : cop o x y = some b) (h1 : o ≠ .eq) (h2 : o ≠ .ne) (h3 : o ≠ .isin) (h4 : o ≠ .notin) : ∃ i j, x = .int i ∧ y = .int j := by
  cases o <;> first
    | exact absurd rfl h1
    | exact absurd rfl h2
    | exact absurd rfl h3
    | exact absurd rfl h4
    | (cases x <;> cases y <;> first | exact ⟨_, _, rfl, rfl⟩ | cases e)
theorem scv_flat {d : D} {u : V} (e : d.scv = some u) : flatV u = true := by
  cases d <;> cases e <;> rfl
theorem Rps.scal {K : PySem.W.Frag} {w : Wd} : ∀ {vs : List V} {ds : List D}, Rps K w vs ds → (ds.all fun z => z.scv.isSome) = true → vs.all flatV = true ∧ ∀ (x : D) (u : V), x.scv = some u → (ds.any fun z => eqS z x) = vs.any fun y => eqV y u
  | _, _, .nil, _ => ⟨rfl, fun _ _ _ => rfl⟩
  | _, _, .cons (d := d) (v := v) a b, h => by
    rw [List.all_cons, Bool.and_eq_true] at h
    obtain ⟨h1, h2⟩ := b.scal h.2
    obtain ⟨u0, e0⟩ := Option.isSome_iff_exists.mp h.1
    have ev : v = u0 := scv_look (M := []) a (by cases a <;> first | exact e0 | cases e0)
    subst ev
    refine ⟨by rw [List.all_cons, scv_flat e0, h1]; rfl, fun x u ex => ?_⟩
    rw [List.any_cons, List.any_cons, h2 x u ex]
    unfold eqS
    rw [e0, ex]
theorem inD_read {K : PySem.W.Frag} {w : Wd} {M : Store} {x y : V} {dx dy : D} {b : Bool} (R : RS K w M) (px : Rp K w x dx) (py : Rp K w y dy) (e : inD (dx.look M) (dy.look M) = some b) :
    ∃ p xs, y = .ref p ∧ (SqL K w.H p xs ∨ SqT K w.H p xs) ∧ flatV x = true ∧ xs.all flatV = true ∧ inV x xs = b := by
  have fin : ∀ {p : Addr} {vs : List V} {ds : List D}, Rps K w vs ds → (if (dx.look M).scv.isSome && ds.all (fun z => z.scv.isSome) then some (ds.any fun z => eqS z (dx.look M)) else none) = some b → flatV x = true ∧ vs.all flatV = true ∧ inV x vs = b := fun {p vs ds} h2 e => by
    split at e
    · rename_i q
      rw [Bool.and_eq_true] at q
      obtain ⟨u, eu⟩ := Option.isSome_iff_exists.mp q.1
      have ex := scv_look px eu
      subst ex
      obtain ⟨a1, a2⟩ := h2.scal q.2
      refine ⟨scv_flat eu, a1, ?_⟩
      rw [← Option.some.inj e, a2 _ _ eu] <;> rfl
    · cases e
  cases q : dy.look M with
  | tup ds =>
    rw [q] at e
    obtain ⟨a, vs, rfl, h1, h2⟩ := R.lookT py q
    obtain ⟨f1, f2, f3⟩ := fin (p := a) h2 e
    exact ⟨a, vs, rfl, .inr (SqT.at_ h1), f1, f2, f3⟩
  | lst ds =>
    rw [q] at e
    obtain ⟨a, vs, rfl, h1, h2⟩ := R.lookL py q
    obtain ⟨f1, f2, f3⟩ := fin (p := a) h2 e
    exact ⟨a, vs, rfl, .inl (SqL.at_ h1), f1, f2, f3⟩
  | _ => rw [q] at e; cases e
theorem opC (hu : X.A.units + 64 < cLine) (o : CO) : OpR X (compareOp o.op) (rC X.K o) := by
  cases o with
  | eq => exact opC_eq hu
  | ne => exact opC_ne hu
  | isin =>
    intro pins s σ H x y v u Q I rx ry h
    obtain ⟨w, M, dx, dy, b, rfl, R, px, py, e, q⟩ := h
    obtain ⟨p, xs, rfl, h1, h2, h3, h4⟩ := inD_read R px py e
    exact op_in_seq _ _ _ _ _ _ _ _ _ I rx ry ⟨p, xs, rfl, h1, h2, h3, by rw [if_neg (by decide), h4]; exact q⟩
  | notin =>
    intro pins s σ H x y v u Q I rx ry h
    obtain ⟨w, M, dx, dy, b, rfl, R, px, py, e, q⟩ := h
    have e : (inD (dx.look M) (dy.look M)).map (!·) = some b := e
    obtain ⟨b', e0, eb⟩ := Option.map_eq_some_iff.mp e
    subst eb
    obtain ⟨p, xs, rfl, h1, h2, h3, h4⟩ := inD_read R px py e0
    exact op_notIn_seq _ _ _ _ _ _ _ _ _ I rx ry ⟨p, xs, rfl, h1, h2, h3, by rw [if_pos rfl, h4]; exact q⟩
  | lt =>
    intro pins s σ H x y v u Q I rx ry h
    obtain ⟨w, M, dx, dy, b, rfl, R, px, py, e, q⟩ := h
    obtain ⟨i, j, e1, e2⟩ := cop_ints e (fun z => nomatch z) (fun z => nomatch z) (fun z => nomatch z) (fun z => nomatch z)
    rw [e1, e2] at e
    have z1 := scv_look (u := .int i) px (by rw [e1]; rfl)
    have z2 := scv_look (u := .int j) py (by rw [e2]; rfl)
    subst z1 z2
    cases e
    exact op_lt _ _ _ _ _ _ _ _ _ I rx ry ⟨i, j, rfl, rfl, q⟩
  | le =>
    intro pins s σ H x y v u Q I rx ry h
    obtain ⟨w, M, dx, dy, b, rfl, R, px, py, e, q⟩ := h
    obtain ⟨i, j, e1, e2⟩ := cop_ints e (fun z => nomatch z) (fun z => nomatch z) (fun z => nomatch z) (fun z => nomatch z)
    rw [e1, e2] at e
    have z1 := scv_look (u := .int i) px (by rw [e1]; rfl)
    have z2 := scv_look (u := .int j) py (by rw [e2]; rfl)
    subst z1 z2
    cases e
    exact op_le _ _ _ _ _ _ _ _ _ I rx ry ⟨i, j, rfl, rfl, q⟩
  | gt =>
    intro pins s σ H x y v u Q I rx ry h
    obtain ⟨w, M, dx, dy, b, rfl, R, px, py, e, q⟩ := h
    obtain ⟨i, j, e1, e2⟩ := cop_ints e (fun z => nomatch z) (fun z => nomatch z) (fun z => nomatch z) (fun z => nomatch z)
    rw [e1, e2] at e
    have z1 := scv_look (u := .int i) px (by rw [e1]; rfl)
    have z2 := scv_look (u := .int j) py (by rw [e2]; rfl)
    subst z1 z2
    cases e
    exact op_gt _ _ _ _ _ _ _ _ _ I rx ry ⟨i, j, rfl, rfl, q⟩
  | ge =>
    intro pins s σ H x y v u Q I rx ry h
    obtain ⟨w, M, dx, dy, b, rfl, R, px, py, e, q⟩ := h
    obtain ⟨i, j, e1, e2⟩ := cop_ints e (fun z => nomatch z) (fun z => nomatch z) (fun z => nomatch z) (fun z => nomatch z)
    rw [e1, e2] at e
    have z1 := scv_look (u := .int i) px (by rw [e1]; rfl)
    have z2 := scv_look (u := .int j) py (by rw [e2]; rfl)
    subst z1 z2
    cases e
    exact op_ge _ _ _ _ _ _ _ _ _ I rx ry ⟨i, j, rfl, rfl, q⟩

/-! ### truth, subscripts, slices, built-in functions, methods -/
theorem truV_of {K : PySem.W.Frag} {w : Wd} {M : Store} (R : RS K w M) {v : V} {d : D} {b : Bool} (h : Rp K w v d) (e : tru (d.look M) = some b) : TruV K v w.H b := by
  obtain ⟨_, d', e', _, q⟩ := look_rep R h
  rw [e'] at e
  rcases q with q | ⟨a, ds, vs, rfl, rfl, h3, h4⟩
  · cases q with
    | non => cases e; exact rfl
    | bl b => cases e; exact rfl
    | int i =>
      have e2 := Option.some.inj e
      subst e2
      show decide (i ≠ 0) = (i != 0)
      rw [Bool.eq_iff_iff]; simp
    | str x =>
      have e2 : (if x.length ≤ sizeLine then some (decide (x.length ≠ 0)) else none) = some b := e
      split at e2
      · rename_i hz
        cases e2
        refine ⟨hz, ?_⟩
        rw [Bool.eq_iff_iff]; simp
      · cases e2
    | tup h1 h2 =>
      cases e
      refine .inr (.inl ⟨_, SqT.at_ h1, ?_⟩)
      cases h2 <;> rfl
    | lst f h1 h2 =>
      cases e
      refine .inl ⟨_, SqL.at_ h1, ?_⟩
      cases h2 <;> rfl
    | _ => cases e
  · cases e
    refine .inl ⟨_, SqL.at_ h3, ?_⟩
    cases h4 <;> rfl
/-- x[i] on data -/
def rI' (K : PySem.W.Frag) : R2 := fun x y H Q => ∃ w M dx dy d, w.H = H ∧ RS K w M ∧ Rp K w x dx ∧ Rp K w y dy ∧ ixD (dx.look M) dy = some d ∧ Aft K w M d Q
theorem atI_rep {K : PySem.W.Frag} {w : Wd} {vs : List V} {ds : List D} {i : Int} {d : D} (h : Rps K w vs ds) (e : atI ds i = some d) : ∃ v, atI vs i = some v ∧ Rp K w v d := by
  unfold atI at e ⊢
  rw [h.length]
  cases q : ixN ds.length i with
  | none => rw [q] at e; cases e
  | some j =>
    rw [q] at e
    exact h.get e
theorem ixR' : IxR X (rI' X.K) := by
  intro ve se pins s σ H x y v u Q I rx ry h hpl
  obtain ⟨w, M, dx, dy, d, rfl, R, px, py, e, k⟩ := h
  cases dy with
  | int i =>
    cases py
    cases q : dx.look M with
    | tup ds =>
      rw [q] at e
      obtain ⟨a, vs, rfl, h1, h2⟩ := R.lookT px q
      obtain ⟨z, e1, e2⟩ := atI_rep h2 e
      exact ix_tup ve se pins s σ w.H _ _ v u Q I rx ry ⟨a, vs, i, z, rfl, rfl, SqT.at_ h1, e1, k.here R e2⟩ hpl
    | lst ds =>
      rw [q] at e
      obtain ⟨a, vs, rfl, h1, h2⟩ := R.lookL px q
      obtain ⟨z, e1, e2⟩ := atI_rep h2 e
      exact ix_list ve se pins s σ w.H _ _ v u Q I rx ry ⟨a, vs, i, z, rfl, rfl, SqL.at_ h1, e1, k.here R e2⟩ hpl
    | _ => rw [q] at e; cases e
  | _ => cases q : dx.look M <;> rw [q] at e <;> cases e
theorem cut_rep {K : PySem.W.Frag} {w : Wd} {vs : List V} {ds : List D} (h : Rps K w vs ds) (lo hi : Option Int) : Rps K w (cutV vs lo hi) (cut ds lo hi) := by
  unfold cutV cut
  rw [h.length]
  exact (h.drop _).take _
theorem cut_map {α β : Type} (f : α → β) (xs : List α) (lo hi : Option Int) : (cut xs lo hi).map f = cut (xs.map f) lo hi := by
  unfold cut
  rw [List.map_take, List.map_drop, List.length_map]
theorem cutV_cut (xs : List V) (lo hi : Option Int) : cutV xs lo hi = cut xs lo hi := rfl
def rSl' (K : PySem.W.Frag) : V → Option Int → Option Int → Hp → VK → Prop := fun x lo hi H Q => ∃ w M dx d, w.H = H ∧ RS K w M ∧ Rp K w x dx ∧ slD (dx.look M) lo hi = some d ∧ Aft K w M d Q
theorem slR' : SlR X (rSl' X.K) := by
  intro pins s σ H x v vl vu lo hi sl Q I rx hs pl pu h
  obtain ⟨w, M, dx, d, rfl, R, px, e, k⟩ := h
  cases q : dx.look M with
  | tup ds =>
    rw [q] at e
    obtain ⟨a, vs, rfl, h1, h2⟩ := R.lookT px q
    cases e
    refine sl_tupA pins s σ w.H _ v vl vu lo hi sl Q I rx hs pl pu ⟨a, vs, rfl, SqT.at_ h1, fun hc => ?_, fun _ p hp => mk_tup R (cut_rep h2 lo hi) k hp⟩
    refine k.here R (.tup h1 ?_)
    have e3 : cutV vs lo hi = vs := by
      unfold cutV
      rw [hc.1, hc.2]
      simp
    rw [← e3]
    exact cut_rep h2 lo hi
  | lst ds =>
    rw [q] at e
    obtain ⟨a, vs, rfl, h1, h2⟩ := R.lookL px q
    cases e
    exact sl_list pins s σ w.H _ v vl vu lo hi sl Q I rx hs pl pu ⟨a, vs, rfl, SqL.at_ h1, fun p hp => mk_new (r := false) R (cut_rep h2 lo hi) rfl k hp⟩
  | scr ns =>
    rw [q] at e
    cases e
    have q' : dx = .scr ns := by
      cases px with
      | @ref a i h1 => rcases look_ref' (M := M) (i := i) (d := (D.ref i).look M) rfl with ⟨ds, z⟩ | z <;> (rw [z] at q; cases q)
      | _ => first | exact q | cases q
    subst q'
    cases px with
    | @scr a _ h1 =>
    have h2 : SqL X.K w.H a (ns.map V.int) := by
      have up : ∀ o, locked w.H a = some o → w.H a = some o := fun o z => by
        unfold locked at z
        split at z
        · rename_i q2; cases z; exact q2
        · cases z
      rcases h1 with (h1 | ⟨o, h1⟩) | h1
      · exact .inl (.inl (up _ h1))
      · exact .inl (.inr ⟨o, up _ h1⟩)
      · exact .inr h1
    refine sl_list pins s σ w.H _ v vl vu lo hi sl Q I rx hs pl pu ⟨a, _, rfl, h2, fun p hp => mk_new (r := false) R (ds := (cut ns lo hi).map .int) ?_ rfl k hp⟩
    rw [cutV_cut, ← cut_map]
    exact Rps.of_ints _
  | _ => rw [q] at e; cases e

/-- the same, the list becomes one of the store -/
def rSlL (K : PySem.W.Frag) : V → Option Int → Option Int → Hp → VK → Prop := fun x lo hi H Q => ∃ w M dx d M', w.H = H ∧ RS K w M ∧ Rp K w x dx ∧ newL (slD (dx.look M) lo hi) M = .ok d M' ∧ Aft K w M' d Q
theorem slRL : SlR X (rSlL X.K) := by
  intro pins s σ H x v vl vu lo hi sl Q I rx hs pl pu h
  obtain ⟨w, M, dx, d, M', rfl, R, px, e0, k⟩ := h
  obtain ⟨xs, e, e0⟩ := newL_ok e0
  cases q : dx.look M with
  | tup ds => rw [q] at e; cases e
  | lst ds =>
    rw [q] at e
    obtain ⟨a, vs, rfl, h1, h2⟩ := R.lookL px q
    cases e
    exact sl_list pins s σ w.H _ v vl vu lo hi sl Q I rx hs pl pu ⟨a, vs, rfl, SqL.at_ h1, fun p hp => mk_new (r := true) R (cut_rep h2 lo hi) e0 k hp⟩
  | scr ns =>
    rw [q] at e
    cases e
    have q' : dx = .scr ns := by
      cases px with
      | @ref a i h1 => rcases look_ref' (M := M) (i := i) (d := (D.ref i).look M) rfl with ⟨ds, z⟩ | z <;> (rw [z] at q; cases q)
      | _ => first | exact q | cases q
    subst q'
    cases px with
    | @scr a _ h1 =>
    have h2 : SqL X.K w.H a (ns.map V.int) := by
      have up : ∀ o, locked w.H a = some o → w.H a = some o := fun o z => by
        unfold locked at z
        split at z
        · rename_i q2; cases z; exact q2
        · cases z
      rcases h1 with (h1 | ⟨o, h1⟩) | h1
      · exact .inl (.inl (up _ h1))
      · exact .inl (.inr ⟨o, up _ h1⟩)
      · exact .inr h1
    refine sl_list pins s σ w.H _ v vl vu lo hi sl Q I rx hs pl pu ⟨a, _, rfl, h2, fun p hp => mk_new (r := true) R (ds := (cut ns lo hi).map .int) ?_ e0 k hp⟩
    rw [cutV_cut, ← cut_map]
    exact Rps.of_ints _
  | _ => rw [q] at e; cases e
theorem bop_lst {o : BO} {x y : D} {xs : List D} (e : bop o x y = some (.lst xs)) : (o = .add ∧ ∃ i j, x = .lst i ∧ y = .lst j) ∨ (o = .mul ∧ ∃ i j, x = .lst i ∧ y = .int j) := by
  cases o <;> cases x <;> cases y <;> first | (cases e; done) | (exact .inl ⟨rfl, _, _, rfl, rfl⟩) | (exact .inr ⟨rfl, _, _, rfl, rfl⟩) | (exfalso; simp [bop] at e; done)
def rBL (K : PySem.W.Frag) (o : BO) : R2 := fun x y H Q => ∃ w M dx dy d M', w.H = H ∧ RS K w M ∧ Rp K w x dx ∧ Rp K w y dy ∧ newL (bop o dx dy) M = .ok d M' ∧ Aft K w M' d Q
theorem opBL (o : BO) : OpR X (binaryOp o.op) (rBL X.K o) := by
  intro pins s σ H x y v u Q I rx ry h
  obtain ⟨w, M, dx, dy, d, M', rfl, R, px, py, e0, k⟩ := h
  obtain ⟨xs, e, e0⟩ := newL_ok e0
  rcases bop_lst e with ⟨rfl, i, j, rfl, rfl⟩ | ⟨rfl, i, j, rfl, rfl⟩
  · cases px with
    | @lst a vs _ f1 h1 h2 =>
    cases py with
    | @lst b us _ f2 g1 g2 =>
    have e' : (if i.length + j.length ≤ sizeLine then some (D.lst (i ++ j)) else none) = some (.lst xs) := e
    split at e'
    · rename_i hz
      cases e'
      exact op_cat _ _ _ _ _ _ _ _ _ I rx ry ⟨a, b, vs, us, rfl, rfl, h1, g1, by rw [h2.length, g2.length]; exact hz, fun p hp => mk_new (r := true) R (h2.append g2) e0 k hp⟩
    · cases e'
  · cases px with
    | @lst a vs _ f1 h1 h2 =>
    cases py
    have e' : (if -(2 ^ 63) ≤ j ∧ j < 2 ^ 63 ∧ i.length * j.toNat ≤ sizeLine then some (D.lst (List.replicate j.toNat i).flatten) else none) = some (.lst xs) := e
    split at e'
    · rename_i hz
      cases e'
      exact op_rep _ _ _ _ _ _ _ _ _ I rx ry ⟨a, j, vs, rfl, rfl, h1, hz.1, hz.2.1, by rw [h2.length]; exact hz.2.2, fun p hp => mk_new (r := true) R (h2.replicate _) e0 k hp⟩
    · cases e'

def BI.ty : BI → Bool
  | .tuple | .list | .int | .str => true
  | _ => false
def BI.id : BI → String
  | .len => "len" | .abs => "abs" | .min2 => "min" | .max2 => "max" | .sum => "sum" | .min1 => "min" | .max1 => "max" | .all => "all" | .any => "any" | .tuple => "tuple" | .list => "list" | .int => "int" | .sorted => "sorted" | .str => "str"
def BI.val (b : BI) : Value := if b.ty then .type b.id else .builtin b.id
/-- a built-in's reading on data -/
def rBl (K : PySem.W.Frag) (b : BI) (r : Bool) : List V → Hp → VK → Prop := fun vs H Q => ∃ w M ds d M', w.H = H ∧ RS K w M ∧ Rps K w vs ds ∧ blt b r ds M = .ok d M' ∧ Aft K w M' d Q
theorem Rps.one {K : PySem.W.Frag} {w : Wd} {vs : List V} {d : D} (h : Rps K w vs [d]) : ∃ v, vs = [v] ∧ Rp K w v d := by
  cases h with
  | cons a b => cases b; exact ⟨_, rfl, a⟩
theorem Rps.two {K : PySem.W.Frag} {w : Wd} {vs : List V} {d e : D} (h : Rps K w vs [d, e]) : ∃ v u, vs = [v, u] ∧ Rp K w v d ∧ Rp K w u e := by
  cases h with
  | cons a b => cases b with
    | cons c b => cases b; exact ⟨_, _, rfl, a, c⟩
theorem foldl_max_mem : ∀ (ns : List Int) (n : Int), ns.foldl max n ∈ n :: ns ∧ ∀ y ∈ n :: ns, y ≤ ns.foldl max n
  | [], n => ⟨by simp, fun y h => by simp at h; simp [h]⟩
  | m :: ns, n => by
    obtain ⟨h1, h2⟩ := foldl_max_mem ns (max n m)
    refine ⟨?_, fun y hy => ?_⟩
    · rw [List.foldl_cons]
      rcases List.mem_cons.mp h1 with h | h
      · rw [h]
        rcases Int.le_total n m with q | q
        · rw [Int.max_eq_right q]; simp
        · rw [Int.max_eq_left q]; simp
      · exact List.mem_cons_of_mem _ (List.mem_cons_of_mem _ h)
    · rw [List.foldl_cons]
      have hm := h2 (max n m) (List.mem_cons_self ..)
      rcases List.mem_cons.mp hy with e | hy
      · rw [e]; exact Int.le_trans (Int.le_max_left ..) hm
      · rcases List.mem_cons.mp hy with e | hy
        · rw [e]; exact Int.le_trans (Int.le_max_right ..) hm
        · exact h2 y (List.mem_cons_of_mem _ hy)
theorem foldl_min_mem : ∀ (ns : List Int) (n : Int), ns.foldl min n ∈ n :: ns ∧ ∀ y ∈ n :: ns, ns.foldl min n ≤ y
  | [], n => ⟨by simp, fun y h => by simp at h; simp [h]⟩
  | m :: ns, n => by
    obtain ⟨h1, h2⟩ := foldl_min_mem ns (min n m)
    refine ⟨?_, fun y hy => ?_⟩
    · rw [List.foldl_cons]
      rcases List.mem_cons.mp h1 with h | h
      · rw [h]
        rcases Int.le_total n m with q | q
        · rw [Int.min_eq_left q]; simp
        · rw [Int.min_eq_right q]; simp
      · exact List.mem_cons_of_mem _ (List.mem_cons_of_mem _ h)
    · rw [List.foldl_cons]
      have hm := h2 (min n m) (List.mem_cons_self ..)
      rcases List.mem_cons.mp hy with e | hy
      · rw [e]; exact Int.le_trans hm (Int.min_le_left ..)
      · rcases List.mem_cons.mp hy with e | hy
        · rw [e]; exact Int.le_trans hm (Int.min_le_right ..)
        · exact h2 y (List.mem_cons_of_mem _ hy)
theorem perm_sorted_uniq : ∀ {l m : List Int}, l.Perm m → l.Pairwise (· ≤ ·) → m.Pairwise (· ≤ ·) → l = m := fun {l m} p h1 h2 =>
  p.eq_of_pairwise (fun a b _ _ x y => Int.le_antisymm x y) h1 h2
theorem mergeSort_sorted (l : List Int) : l.mergeSort.Pairwise (· ≤ ·) := by
  have h := List.pairwise_mergeSort (le := fun (a b : Int) => decide (a ≤ b)) (fun a b c h1 h2 => by simp at h1 h2 ⊢; omega) (fun a b => by simp; omega) l
  exact h.imp fun x => by simpa using x
theorem callB' (hc : X.calm = true) (b : BI) (r : Bool) : CallR X b.val (rBl X.K b r) := by
  intro pins s σ H vs us Q I rv h
  obtain ⟨w, M, ds, d, M', rfl, R, pv, e, k⟩ := h
  cases ds with
  | nil => cases b <;> cases e
  | cons x ds =>
  cases ds with
  | nil =>
    obtain ⟨v, rfl, px⟩ := pv.one
    cases b with
    | len =>
      have e : (match x.look M with
        | .tup xs => Res.ok (D.int xs.length) M
        | .lst xs => .ok (D.int xs.length) M
        | .str s => if s.length ≤ sizeLine then .ok (D.int s.length) M else .no
        | _ => .no) = .ok d M' := e
      cases q : x.look M with
      | tup ds =>
        rw [q] at e; cases e
        obtain ⟨a, ws, rfl, h1, h2⟩ := R.lookT px q
        refine L2.call_len pins s σ w.H _ us Q I rv ⟨_, ws.length, rfl, .inr ⟨_, SqT.at_ h1, rfl⟩, ?_⟩
        rw [h2.length]; exact k.here R (.int _)
      | lst ds =>
        rw [q] at e; cases e
        obtain ⟨a, ws, rfl, h1, h2⟩ := R.lookL px q
        refine L2.call_len pins s σ w.H _ us Q I rv ⟨_, ws.length, rfl, .inl ⟨_, SqL.at_ h1, rfl⟩, ?_⟩
        rw [h2.length]; exact k.here R (.int _)
      | str z =>
        rw [q] at e
        have zz := scv_look (u := .str z) px (by rw [q]; rfl)
        subst zz
        have e : (if z.length ≤ sizeLine then Res.ok (D.int z.length) M else .no) = .ok d M' := e
        split at e
        · rename_i hz
          cases e
          exact L2.call_len pins s σ w.H _ us Q I rv ⟨_, z.length, rfl, ⟨hz, rfl⟩, k.here R (.int _)⟩
        · cases e
      | _ => rw [q] at e; cases e
    | abs =>
      cases x with
      | int i =>
        cases px; cases e
        exact L2.call_abs pins s σ w.H _ us Q I rv ⟨i, rfl, k.here R (.int _)⟩
      | _ => cases e
    | int =>
      cases x with
      | int i =>
        cases px; cases e
        exact L2.call_int1 pins s σ w.H _ us Q I rv (.inl ⟨i, rfl, k.here R (.int _)⟩)
      | bl i =>
        cases px; cases e
        exact L2.call_int1 pins s σ w.H _ us Q I rv (.inr ⟨i, rfl, k.here R (.int _)⟩)
      | _ => cases e
    | str =>
      cases x with
      | int i =>
        cases px
        have e' : (if i.natAbs.log2 < 1920 then Res.ok (D.str (toString i)) M else .no) = .ok d M' := e
        split at e'
        · rename_i hz
          cases e'
          exact L2.call_str_int pins s σ w.H _ us Q I rv ⟨i, rfl, hz, k.here R (.str _)⟩
        · cases e'
      | _ => cases e
    | sum =>
      obtain ⟨e1, rfl⟩ := opt_eq_ok e
      obtain ⟨ns, e2, rfl⟩ := Option.map_eq_some_iff.mp e1
      clear e1
      have e1 := e2
      cases q : x.look M with
      | lst ds =>
        rw [q] at e1
        obtain ⟨a, ws, rfl, h1, h2⟩ := R.lookL px q
        have e3 := h2.ints e1
        subst e3
        exact cr_sum hc pins s σ w.H _ us Q I rv ⟨a, ns, rfl, SqL.at_ h1, k.here R (.int _)⟩
      | tup ds =>
        rw [q] at e1
        obtain ⟨a, ws, rfl, h1, h2⟩ := R.lookT px q
        have e3 := h2.ints e1
        subst e3
        exact cr_sumT hc pins s σ w.H _ us Q I rv ⟨a, ns, rfl, SqT.at_ h1, k.here R (.int _)⟩
      | _ => rw [q] at e1; cases e1
    | max1 =>
      obtain ⟨e1, rfl⟩ := opt_eq_ok e
      cases q : x.look M with
      | lst ds =>
        rw [q] at e1
        obtain ⟨a, ws, rfl, h1, h2⟩ := R.lookL px q
        have e1 : (match intsD ds with
          | some (n :: ns) => some (D.int (ns.foldl max n))
          | _ => none) = some d := e1
        cases q2 : intsD ds with
        | none => rw [q2] at e1; cases e1
        | some ns =>
          have e2 := h2.ints q2
          subst e2
          rw [q2] at e1
          cases ns with
          | nil => cases e1
          | cons n ns =>
            cases e1
            refine cr_max hc pins s σ w.H _ us Q I rv ⟨a, n :: ns, rfl, SqL.at_ h1, Nat.zero_lt_succ _, fun m hm hle => ?_⟩
            obtain ⟨f1, f2⟩ := foldl_max_mem ns n
            rw [show m = ns.foldl max n from Int.le_antisymm (f2 m hm) (hle _ f1)]
            exact k.here R (.int _)
      | tup ds =>
        rw [q] at e1
        obtain ⟨a, ws, rfl, h1, h2⟩ := R.lookT px q
        have e1 : (match intsD ds with
          | some (n :: ns) => some (D.int (ns.foldl max n))
          | _ => none) = some d := e1
        cases q2 : intsD ds with
        | none => rw [q2] at e1; cases e1
        | some ns =>
          have e2 := h2.ints q2
          subst e2
          rw [q2] at e1
          cases ns with
          | nil => cases e1
          | cons n ns =>
            cases e1
            refine cr_maxT hc pins s σ w.H _ us Q I rv ⟨a, n :: ns, rfl, SqT.at_ h1, Nat.zero_lt_succ _, fun m hm hle => ?_⟩
            obtain ⟨f1, f2⟩ := foldl_max_mem ns n
            rw [show m = ns.foldl max n from Int.le_antisymm (f2 m hm) (hle _ f1)]
            exact k.here R (.int _)
      | _ => rw [q] at e1; cases e1
    | min1 =>
      obtain ⟨e1, rfl⟩ := opt_eq_ok e
      cases q : x.look M with
      | lst ds =>
        rw [q] at e1
        obtain ⟨a, ws, rfl, h1, h2⟩ := R.lookL px q
        have e1 : (match intsD ds with
          | some (n :: ns) => some (D.int (ns.foldl min n))
          | _ => none) = some d := e1
        cases q2 : intsD ds with
        | none => rw [q2] at e1; cases e1
        | some ns =>
          have e2 := h2.ints q2
          subst e2
          rw [q2] at e1
          cases ns with
          | nil => cases e1
          | cons n ns =>
            cases e1
            refine cr_min hc pins s σ w.H _ us Q I rv ⟨a, n :: ns, rfl, SqL.at_ h1, Nat.zero_lt_succ _, fun m hm hle => ?_⟩
            obtain ⟨f1, f2⟩ := foldl_min_mem ns n
            rw [show m = ns.foldl min n from Int.le_antisymm (hle _ f1) (f2 m hm)]
            exact k.here R (.int _)
      | tup ds =>
        rw [q] at e1
        obtain ⟨a, ws, rfl, h1, h2⟩ := R.lookT px q
        have e1 : (match intsD ds with
          | some (n :: ns) => some (D.int (ns.foldl min n))
          | _ => none) = some d := e1
        cases q2 : intsD ds with
        | none => rw [q2] at e1; cases e1
        | some ns =>
          have e2 := h2.ints q2
          subst e2
          rw [q2] at e1
          cases ns with
          | nil => cases e1
          | cons n ns =>
            cases e1
            refine cr_minT hc pins s σ w.H _ us Q I rv ⟨a, n :: ns, rfl, SqT.at_ h1, Nat.zero_lt_succ _, fun m hm hle => ?_⟩
            obtain ⟨f1, f2⟩ := foldl_min_mem ns n
            rw [show m = ns.foldl min n from Int.le_antisymm (hle _ f1) (f2 m hm)]
            exact k.here R (.int _)
      | _ => rw [q] at e1; cases e1
    | all =>
      obtain ⟨e1, rfl⟩ := opt_eq_ok e
      obtain ⟨ns, e2, rfl⟩ := Option.map_eq_some_iff.mp e1
      clear e1
      have e1 := e2
      cases q : x.look M with
      | lst ds =>
        rw [q] at e1
        obtain ⟨a, ws, rfl, h1, h2⟩ := R.lookL px q
        have e3 := h2.bls e1
        subst e3
        exact cr_all hc pins s σ w.H _ us Q I rv ⟨a, ns, rfl, SqL.at_ h1, k.here R (.bl _)⟩
      | _ => rw [q] at e1; cases e1
    | any =>
      obtain ⟨e1, rfl⟩ := opt_eq_ok e
      obtain ⟨ns, e2, rfl⟩ := Option.map_eq_some_iff.mp e1
      clear e1
      have e1 := e2
      cases q : x.look M with
      | lst ds =>
        rw [q] at e1
        obtain ⟨a, ws, rfl, h1, h2⟩ := R.lookL px q
        have e3 := h2.bls e1
        subst e3
        exact cr_any hc pins s σ w.H _ us Q I rv ⟨a, ns, rfl, SqL.at_ h1, k.here R (.bl _)⟩
      | _ => rw [q] at e1; cases e1
    | tuple =>
      cases q : x.look M with
      | lst ds =>
        have e : (match x.look M with
          | .lst xs => Res.ok (D.tup xs) M
          | .tup xs => .ok (D.tup xs) M
          | _ => .no) = .ok d M' := e
        rw [q] at e; cases e
        obtain ⟨a, ws, rfl, h1, h2⟩ := R.lookL px q
        exact L2.call_tuple_of pins s σ w.H _ us Q I rv ⟨a, ws, rfl, .inl ⟨SqL.at_ h1, fun p hp => mk_tup R h2 k hp⟩⟩
      | tup ds =>
        have e : (match x.look M with
          | .lst xs => Res.ok (D.tup xs) M
          | .tup xs => .ok (D.tup xs) M
          | _ => .no) = .ok d M' := e
        rw [q] at e; cases e
        obtain ⟨a, ws, rfl, h1, h2⟩ := R.lookT px q
        exact L2.call_tuple_of pins s σ w.H _ us Q I rv ⟨a, ws, rfl, .inr ⟨SqT.at_ h1, k.here R (.tup h1 h2)⟩⟩
      | _ =>
        have e : (match x.look M with
          | .lst xs => Res.ok (D.tup xs) M
          | .tup xs => .ok (D.tup xs) M
          | _ => .no) = .ok d M' := e
        rw [q] at e; cases e
    | list =>
      have e : (match x.look M with
        | .lst xs => mkL r xs M
        | .tup xs => mkL r xs M
        | _ => .no) = .ok d M' := e
      cases q : x.look M with
      | lst ds =>
        rw [q] at e
        obtain ⟨a, ws, rfl, h1, h2⟩ := R.lookL px q
        exact L2.call_list_of pins s σ w.H _ us Q I rv ⟨a, ws, rfl, .inl (SqL.at_ h1), fun p hp => mk_new R h2 e k hp⟩
      | tup ds =>
        rw [q] at e
        obtain ⟨a, ws, rfl, h1, h2⟩ := R.lookT px q
        exact L2.call_list_of pins s σ w.H _ us Q I rv ⟨a, ws, rfl, .inr (SqT.at_ h1), fun p hp => mk_new R h2 e k hp⟩
      | _ => rw [q] at e; cases e
    | sorted =>
      have e : (match x.look M with
        | .lst xs => (match intsD xs with
          | some ns => mkL r ((ns.mergeSort).map D.int) M
          | none => .no)
        | _ => .no) = .ok d M' := e
      cases q : x.look M with
      | lst ds =>
        rw [q] at e
        obtain ⟨a, ws, rfl, h1, h2⟩ := R.lookL px q
        have e : (match intsD ds with
          | some ns => mkL r ((ns.mergeSort).map D.int) M
          | none => .no) = .ok d M' := e
        cases q2 : intsD ds with
        | none => rw [q2] at e; cases e
        | some ns =>
          rw [q2] at e
          have e2 := h2.ints q2
          subst e2
          refine cr_sortedI pins s σ w.H _ us Q I rv ⟨a, ns, rfl, SqL.at_ h1, fun ns' p hperm hs hp => ?_⟩
          rw [perm_sorted_uniq (hperm.trans (List.mergeSort_perm ns (fun a b => decide (a ≤ b))).symm) hs (mergeSort_sorted ns)]
          exact mk_new R (Rps.of_ints _) e k hp
      | _ => rw [q] at e; cases e
    | min2 => cases x <;> cases e
    | max2 => cases x <;> cases e
  | cons y ds =>
    cases ds with
    | nil =>
      obtain ⟨v, u, rfl, px, py⟩ := pv.two
      cases b with
      | min2 =>
        cases x with
        | int i => cases y with
          | int j =>
            cases px; cases py; cases e
            exact L2.call_min2 hc pins s σ w.H _ us Q I rv ⟨i, j, rfl, k.here R (.int _)⟩
          | _ => cases e
        | _ => cases e
      | max2 =>
        cases x with
        | int i => cases y with
          | int j =>
            cases px; cases py; cases e
            exact L2.call_max2 hc pins s σ w.H _ us Q I rv ⟨i, j, rfl, k.here R (.int _)⟩
          | _ => cases e
        | _ => cases e
      | _ => cases x <;> first | cases e | (cases y <;> cases e)
    | cons z ds => cases b <;> first | cases e | (cases x <;> first | cases e | (cases y <;> cases e))
end
end CZ

set_option Elab.async false
set_option linter.all false
set_option maxRecDepth 100000
set_option maxHeartbeats 4000000
/-! CZ4: list(reversed(xs)). -/
namespace CZ
open PySem PySem.Spec PyProof.Rows L2 RT
section
variable {prog : Program} {w : World} {A : Around} {E : Value → Shared → Prop} {s : Shared}
theorem ext_rev {R : Result → Shared → Prop} {it l : Addr} {items : Array Value} (hh : A.handled = none) (hit : s.heap.IsRevIter it l ((items.size : Int) - 1)) (hl : s.heap.IsList l items) (hne : l ≠ it) (hn : items.size ≤ sizeLine)
    (S : Addr) (hSi : S ≠ it) (hSl : S ≠ l) (res : Value) (c₀ : Nat) (hS : s.heap.get? S = some { cls := .type "list", data := .seq #[] c₀ })
    (hR : ∀ h' tk acc' c', (∀ b o, b ≠ S → b ≠ it → s.heap.get? b = some o → h'.get? b = some o) → h'.get? S = some { cls := .type "list", dict := none, data := .seq acc' c', slots := #[] } → ItemsOf (fun i v => items[items.size - 1 - i]? = some v) acc' items.size → R (.ok (.ret res)) { s with heap := h', toks := tk }) :
    wpAny (model prog w) A.in1 (Builtin.List.listExtendWith (.ref S) (.ref it) res)
      (fun fin s' => match fin with | .done f => R (.ok f) s' | .again c' => c'.quiet = true ∧ codeAny (model prog w) A c' R s') (fun e s' => R (.error e) s') s := by
  have W := (Walks.listRev (prog := prog) (w := w) (A := A.in1) hh it l hne items).toS
  have hSf : S ∉ [it, l] := by simp only [List.mem_cons, List.not_mem_nil, or_false, not_or]; exact ⟨hSi, hSl⟩
  have hT : s.TypeIs (.ref it) "list_reverseiterator" := Heap.IsRevIter.typeIs hit
  have h1 : Builtin.List.listSameRef (.ref S) (.ref it) = false := by simp [Builtin.List.listSameRef, hSi]
  unfold Builtin.List.listExtendWith
  refine wpAny_bind (wpAny_typeOf hT ?_)
  rw [if_neg (by rw [h1]; decide)]
  refine wpAny_bind (wpAny_pyIter_revIter hit ?_)
  refine wpAny_bind (wpAny_holding ?_)
  unfold Builtin.List.listLengthHint
  refine wpAny_bind (wpAny_specialOf hT nolen_lri ?_)
  show wpAny _ A.in1 (specialOf (Value.ref it) (Str.ofString "__length_hint__") >>= _) _ _ _
  refine wpAny_bind (wpAny_specialOf hT hint_lri ?_)
  generalize hid : ("list_reverseiterator.__length_hint__" : String) = id0
  wp_delta
  rw [show splitId id0 = some ("list_reverseiterator", "__length_hint__") from by subst hid; decide +kernel]
  subst hid
  refine wpAny_bind (wpAny_isInstance (b := true) hT (by rw [isSubtype_type]; kernel_rfl) ?_)
  refine wpAny_pure ?_
  rw [if_neg (by decide)]
  have e0 : ((items.size : Nat) : Int) - 1 - ((0 : Nat) : Int) = (items.size : Int) - 1 := by omega
  refine wpAny_pure ⟨plainId_quiet F.plain_extend_loop _, codeAny_extend_loopS W hn S hSf res items.size 0 _ #[] c₀ rfl (Nat.zero_le _) ⟨Nat.zero_le _, by rw [e0]; exact hit, hl⟩ hS (ItemsOf.nil _) fun s' acc' c' hm hS' hacc => ?_⟩
  rw [Moved.eq_with hm]
  refine hR s'.heap s'.toks acc' c' (fun b o hb hbi e => hm.heap b o (fun hmem => ?_) e) hS' hacc
  rcases List.mem_cons.mp hmem with e' | hmem
  · exact hb e'
  · exact hbi (List.mem_singleton.mp hmem)
theorem init_rev {R : Result → Shared → Prop} {it l : Addr} {items : Array Value} (hh : A.handled = none) (hit : s.heap.IsRevIter it l ((items.size : Int) - 1)) (hl : s.heap.IsList l items) (hne : l ≠ it) (hn : items.size ≤ sizeLine)
    (S : Addr) (hSi : S ≠ it) (hSl : S ≠ l) (hS : s.heap.get? S = some { cls := .type "list", data := .seq #[] })
    (hR : ∀ h' tk acc' c', (∀ b o, b ≠ S → b ≠ it → s.heap.get? b = some o → h'.get? b = some o) → h'.get? S = some { cls := .type "list", dict := none, data := .seq acc' c', slots := #[] } → ItemsOf (fun i v => items[items.size - 1 - i]? = some v) acc' items.size → R (.ok (.ret .none)) { s with heap := h', toks := tk }) :
    wpAny (model prog w) A.in1 (Builtin.«list.__init__» ⟨[.ref S, .ref it], []⟩)
      (fun fin s' => match fin with | .done f => R (.ok f) s' | .again c' => c'.quiet = true ∧ codeAny (model prog w) A c' R s') (fun e s' => R (.error e) s') s := by
  show wpAny _ _ (do let old ← Builtin.List.listItems (.ref S); Builtin.List.listUpdate (.ref S) (fun _ => #[]); letGo old.toList.reverse; Builtin.List.listExtendWith (.ref S) (.ref it) .none) _ _ s
  refine wpAny_bind ?_
  unfold Builtin.List.listItems
  refine wpAny_bind (wpAny_seqItems hS rfl (wpAny_pure ?_))
  show wpAny _ _ (updateSeq S (fun _ => #[]) >>= fun _ => letGo (#[] : Array Value).toList.reverse >>= fun _ => Builtin.List.listExtendWith (.ref S) (.ref it) .none) _ _ s
  refine wpAny_bind (wpAny_updateSeq hS rfl ?_)
  have hS₂ := Heap.get?_update_self (Obj.mapSeq (fun _ => (#[] : Array Value))) hS rfl
  have oth : ∀ b o, b ≠ S → s.heap.get? b = some o → (s.heap.update S (Obj.mapSeq (fun _ => (#[] : Array Value)))).get? b = some o :=
    fun b o hb e => (Heap.get?_update_other _ _ (Ne.symm hb)).trans e
  refine wpAny_bind (wpAny_letGo ?_)
  refine ext_rev (s := { s with heap := s.heap.update S (Obj.mapSeq (fun _ => (#[] : Array Value))) }) hh (hit.at fun o e => oth it o (Ne.symm hSi) e) (hl.at fun o e => oth l o (Ne.symm hSl) e) hne hn S hSi hSl .none _ hS₂ (fun h' tk acc' c' hk hS' hacc => ?_)
  exact hR h' tk acc' c' (fun b o hb hbi e => hk b o hb hbi (oth b o hb e)) hS' hacc
theorem call_list_rev {it l : Addr} {items : Array Value} {Q : Value → Shared → Prop} (hh : A.handled = none) (hit : s.heap.IsRevIter it l ((items.size : Int) - 1)) (hl : s.heap.IsList l items) (hne : l ≠ it) (hn : items.size ≤ sizeLine)
    (hQ : ∀ h' tk acc' c', (∀ b o, b ≠ it → s.heap.get? b = some o → h'.get? b = some o) → h'.get? s.heap.objs.size = some { cls := .type "list", dict := none, data := .seq acc' c', slots := #[] } → ItemsOf (fun i v => items[items.size - 1 - i]? = some v) acc' items.size →
      Q (.ref s.heap.objs.size) { s with heap := h', toks := tk }) :
    wpAny (model prog w) A (call (.type "list") [.ref it]) Q E s := by
  refine callType_codes (Q₁ := fun obj s₁ => obj = .ref s.heap.objs.size ∧ s₁ = { s with heap := s.heap.push { cls := .type "list", data := .seq #[] } }) PySem.F.called_list (PySem.F.typeCall_list_1 _) PySem.F.entry_list_init
    (code_list_new _ ⟨rfl, rfl⟩) fun obj s₁ h₁ => ?_
  obtain ⟨rfl, rfl⟩ := h₁
  have hS : (s.heap.push { cls := .type "list", data := .seq #[] }).get? s.heap.objs.size = some { cls := .type "list", data := .seq #[] } := Heap.get?_push_size _ rfl
  obtain ⟨oi, hoi, _⟩ := id hit
  obtain ⟨ol, hol, _⟩ := id hl
  have hSi : s.heap.objs.size ≠ it := Nat.ne_of_gt (Heap.lt_size hoi)
  have hSl : s.heap.objs.size ≠ l := Nat.ne_of_gt (Heap.lt_size hol)
  refine ⟨⟨_, hS, rfl⟩, PySem.F.args_list_init_2 _ _, init_rev (A := A.in1) (s := { s with heap := s.heap.push { cls := .type "list", data := .seq #[] } }) hh (hit.at fun o e => Heap.get?_push_of_some _ e) (hl.push _) hne hn _ hSi hSl hS (fun h' tk acc' c' hk hS' hacc => ?_)⟩
  exact ⟨rfl, hQ h' tk acc' c' (fun b o hb e => hk b o (Nat.ne_of_lt (Heap.lt_size e)) hb (Heap.get?_push_of_some _ e)) hS' hacc⟩
end
section
variable {X : Cx}
def tListRev (K : PySem.W.Frag) (te : TE) : TE := fun σ H Q => te σ H fun v H1 => ∃ (a : Addr) (xs : List V), v = .ref a ∧ SqL K H1 a xs ∧ ∀ q, H1 q = none → Q (.ref q) (upd H1 q (.lst xs.reverse))
theorem pe_listRev {e : Expr} {te : TE} {p p2 pos pos2 : Pos} (hc : X.calm = true) (hg : Gl X "list") (hm : X.mg "list" = none) (hg2 : Gl X "reversed") (hm2 : X.mg "reversed" = none) (he : PE X e te)
    (hs : starEach [e] X.env = (false, eval e X.env) :: starEach [] X.env := by rfl)
    (hs2 : starEach [.Call (.Name "reversed" p2) [e] [] pos2] X.env = (false, eval (.Call (.Name "reversed" p2) [e] [] pos2) X.env) :: starEach [] X.env := by rfl) :
    PE X (.Call (.Name "list" p) [.Call (.Name "reversed" p2) [e] [] pos2] [] pos) (tListRev X.K te) := by
  refine ⟨fun pins s σ H Q I h => ?_⟩
  refine Call_ (ld_blt I hg hm boot_list (PyProof.Rows.callWith_type1 (args_cons (Call_ (ld_blt I hg2 hm2 PyProof.Rows.boot_reversed (PyProof.Rows.callWith_type1 (args_cons (thn (he.run pins s σ H _ I h) fun u s1 ⟨v, H1, I1, r1, q1⟩ => args_nil ?_) hs) hs rfl))) hs2) hs2 rfl))
  obtain ⟨a, xs, ev, hq, q⟩ := q1
  subst ev
  obtain rfl : u = Value.ref a := r1
  obtain ⟨its, rv, p', hz⟩ := I1.list hq
  refine call_reversed_list p'.isList (args_nil ?_)
  have k0 : ∀ b o, s1.heap.get? b = some o → (s1.heap.push (revObj a ((its.toArray.size : Int) - 1))).get? b = some o := fun b o e => Heap.get?_push_of_some _ e
  have I2 : Inv X pins σ H1 { s1 with heap := s1.heap.push (revObj a ((its.toArray.size : Int) - 1)) } := I1.kept (t' := s1.toks) k0
  obtain ⟨f0, f1, f2, f3, f4, f5⟩ := I1.fpOk (H' := H1) (b := s1.heap.objs.size) (Nat.le_refl _) (I1.hok.fresh (Nat.le_refl _))
  have hl := p'.isList
  obtain ⟨ol, hol, _⟩ := id hl
  have hne : a ≠ s1.heap.objs.size := Nat.ne_of_lt (Heap.lt_size hol)
  have hn : its.toArray.size ≤ sizeLine := by rw [List.size_toArray, ← rv.length]; exact hz
  refine call_list_rev (s := { s1 with heap := s1.heap.push (revObj a ((its.toArray.size : Int) - 1)) }) (I1.ok.hd hc) ⟨_, Heap.get?_push_size _ rfl, rfl, rfl⟩ (hl.push _) hne hn fun h' tk acc c' hk hD hi => ?_
  -- the new list is laid behind the iterator
  have hsz : (s1.heap.push (revObj a ((its.toArray.size : Int) - 1))).objs.size = s1.heap.objs.size + 1 := Heap.size_push _ _
  have hfr : H1 (s1.heap.objs.size + 1) = none := I1.hok.fresh (Nat.le_succ _)
  have hD' : h'.get? (s1.heap.objs.size + 1) = some { cls := .type "list", dict := none, data := .seq acc c', slots := #[] } := by rw [← hsz]; exact hD
  refine ⟨.ref (s1.heap.objs.size + 1), upd H1 (s1.heap.objs.size + 1) (.lst xs.reverse), I1.laid (t' := tk) (fun b o e => hk b o (Nat.ne_of_lt (Heap.lt_size e)) (Heap.get?_push_of_some _ e)) (Nat.le_succ _)
    (show ObjOk X.prog X.w _ _ _ (.lst xs.reverse) from ⟨by rw [List.length_reverse]; exact hz, acc.toList, c', vals_rev rv hi, ?_⟩), ?_, q _ hfr⟩
  · rw [Array.toArray_toList]; exact hD'
  · show Value.ref (s1.heap.push (revObj a ((its.toArray.size : Int) - 1))).objs.size = _
    rw [hsz]
end
end CZ

set_option Elab.async false
set_option linter.all false
set_option maxRecDepth 100000
set_option maxHeartbeats 4000000
/-! CZ4g: promises of defs where no repr is under way (A.guards = some []); repr. -/
namespace CZ
open PySem PySem.Spec PyProof.Rows L2

/-- FnOk's like, asked only where nothing guards -/
structure FnG (P : Program) (w : World) (K : PySem.W.Frag) (mg : Str → Option Value) (base : Heap) (cx : CXT) (k : Nat) (f : Addr) (fd : FuncData) (ps : List Str) (sp : Sp) : Prop where
  len : ∀ vs H Q E, sp vs H Q E → vs.length = ps.length
  go : ∀ (A : Around) (outer : List Env) (s : Shared) (H : Hp) (args : Args) (us : List Value) (vs : List V) (Q : VK) (E : XK), A.guards = some [] → Room k A → Env0 P w K mg base A outer s H →
    BindsTo s fd args (ps.zip us) → Vals vs us → sp vs H Q E → codeAny (model P w) A (.call (.ref f) args) (CR cx outer P w H s Q E) s
section
variable {X : Cx} {cx : CXT} {k : Nat} {f : Addr} {fd : FuncData} {ps : List Str} {sp : Sp} {E : XK}
theorem run_G {pins : List (Addr × Obj)} {σ : L2.St} {H : Hp} {s : Shared} {Q : VK} {us ys : List Value} {vs : List V} {kw : List (Str × Value)} (F : FnG X.prog X.w X.K X.mg X.base cx k f fd ps sp) (gu : X.A.guards = some []) (hr : Room k X.A) (hx : Passes cx X E)
    (I : Inv X pins σ H s) (b : BindsTo s fd ⟨us, kw⟩ (ps.zip ys)) (r : Vals vs ys) (h : sp vs H Q E) : wpAny (model X.prog X.w) X.A (call (.ref f) us kw) (EP X pins σ Q) X.xe s := by
  have body := F.go X.A X.stack s H _ ys vs Q E gu hr I.env0 b r h
  refine wpAny_call (codeAny_mono body fun res s' q => ?_)
  rcases res with e | fl
  · exact hx _ _ _ _ _ _ I q
  · cases fl <;> first | exact I.after q | exact (False.elim q)
variable {x : Str} {p pos : Pos} {e : Expr} {es : List Expr} {ta t tk : TA} {ds : List Value} {dvs : List V}
theorem pe_callG (F : FnG X.prog X.w X.K X.mg X.base cx k f fd ps sp) (gu : X.A.guards = some []) (hr : Room k X.A) (hg : Gl X x) (hm : X.mg x = some (.ref f)) (hk : PySem.W.keepIn X.K (.ref f) = true) (hb : Binds X.K fd ps []) (hx : Passes cx X E)
    (ha : PA X (e :: es) t) (hdb : (x == ("__debug__" : Str)) = false) (he : starEach (e :: es) X.env = (false, eval e X.env) :: starEach es X.env) (hpl : (backTo pos (starEach es X.env)).any (·.1) = false) : PE X (.Call (.Name x p) (e :: es) [] pos) (tCall sp [] E t) := by
  constructor
  intro pins s σ H Q I h
  refine wpAny_Call_Name_kw (ld_glob I hg hm (PySem.W.callWith_K (h₀ := X.base) I.ok.mod.kin hk (thn (ha.run pos pins s σ H _ I h) ?_) he hpl) hdb)
  rintro us s1 ⟨vs, H1, I1, r, q⟩
  refine ⟨I1.kIn, run_G F gu hr hx I1 ?_ r (by rw [List.append_nil] at q; exact q)⟩
  have q' : sp vs H1 Q E := by rw [List.append_nil] at q; exact q
  have bb := hb s1 us I1.kIn (by rw [List.append_nil, ← r.length]; exact F.len _ _ _ _ q')
  rw [List.append_nil] at bb
  exact bb
theorem pe_callG0 (F : FnG X.prog X.w X.K X.mg X.base cx k f fd ps sp) (gu : X.A.guards = some []) (hr : Room k X.A) (hg : Gl X x) (hm : X.mg x = some (.ref f)) (hk : PySem.W.keepIn X.K (.ref f) = true) (hb : Binds X.K fd ps []) (hx : Passes cx X E)
    (hdb : (x == ("__debug__" : Str)) = false) : PE X (.Call (.Name x p) [] [] pos) (tCall sp [] E tNil) := by
  constructor
  intro pins s σ H Q I h
  refine wpAny_Call_Name_kw (ld_glob I hg hm (PySem.W.callWith_K0 I.kIn hk (run_G F gu hr hx I (ys := []) (vs := []) ?_ .nil h)) hdb)
  exact hb s [] I.kIn (F.len _ _ _ _ h)
variable {n : Nat} {ks : List Str} {kws : List Keyword} {g : List Value → List Value → List Value} {gV : List V → List V → List V}
theorem pe_callNG (F : FnG X.prog X.w X.K X.mg X.base cx k f fd ps sp) (gu : X.A.guards = some []) (hr : Room k X.A) (hg : Gl X x) (hm : X.mg x = some (.ref f)) (hk : PySem.W.keepIn X.K (.ref f) = true) (hb : KBn X.K fd ps n ks g gV) (hx : Passes cx X E)
    (ha : PA X (e :: es) t) (hkw : PK X kws tk) (hall : (backToKw pos (keywordEach kws X.env)).all (·.1.isSome) = true) (hks : (backToKw pos (keywordEach kws X.env)).filterMap (·.1) = ks)
    (hdb : (x == ("__debug__" : Str)) = false) (he : starEach (e :: es) X.env = (false, eval e X.env) :: starEach es X.env) (hpl : ((backTo pos (starEach (e :: es) X.env)).any (·.1) || (backToKw pos (keywordEach kws X.env)).any (·.1.isNone)) = false) :
    PE X (.Call (.Name x p) (e :: es) kws pos) (tCallN n ks.length sp gV E t tk) := by
  constructor
  intro pins s σ H Q I h
  refine wpAny_Call_Name_kw (ld_glob I hg hm (PySem.W.callWith_KW (h₀ := X.base) I.ok.mod.kin hk hall (thn (ha.run pos pins s σ H _ I h) ?_) hpl he) hdb)
  rintro us s1 ⟨vs, H1, I1, r, q⟩
  refine thn (hkw.run pos pins s1 σ H1 _ I1 q) ?_
  rintro ws s2 ⟨zs, H2, I2, rz, l1, l2, q2⟩
  rw [hks]
  exact ⟨I2.kIn, run_G F gu hr hx I2 (hb.to s2 us ws I2.kIn (r.length.symm.trans l1) (rz.length.symm.trans l2)) (hb.rel r rz) q2⟩
theorem pe_callNG0 (F : FnG X.prog X.w X.K X.mg X.base cx k f fd ps sp) (gu : X.A.guards = some []) (hr : Room k X.A) (hg : Gl X x) (hm : X.mg x = some (.ref f)) (hk : PySem.W.keepIn X.K (.ref f) = true) (hb : KBn X.K fd ps 0 ks g gV) (hx : Passes cx X E)
    (hkw : PK X kws tk) (hall : (backToKw pos (keywordEach kws X.env)).all (·.1.isSome) = true) (hks : (backToKw pos (keywordEach kws X.env)).filterMap (·.1) = ks)
    (hdb : (x == ("__debug__" : Str)) = false) (hpl : ((backTo pos (starEach [] X.env)).any (·.1) || (backToKw pos (keywordEach kws X.env)).any (·.1.isNone)) = false) :
    PE X (.Call (.Name x p) [] kws pos) (tCallN 0 ks.length sp gV E tNil tk) := by
  constructor
  intro pins s σ H Q I h
  refine wpAny_Call_Name_kw (ld_glob I hg hm (PySem.W.callWith_KW0 (h₀ := X.base) I.ok.mod.kin hk hall ?_ hpl) hdb)
  refine thn (hkw.run pos pins s σ H _ I h) ?_
  rintro ws s2 ⟨zs, H2, I2, rz, l1, l2, q2⟩
  rw [hks]
  exact ⟨I2.kIn, run_G F gu hr hx I2 (hb.to s2 [] ws I2.kIn rfl (rz.length.symm.trans l2)) (hb.rel .nil rz) q2⟩
end
/-- a def's promise by its body -/
theorem fn_G {P : Program} {w : World} {K : PySem.W.Frag} {mg : Str → Option Value} {base : Heap} {x qual : Str} {params : Arguments} {body : List Stmt} {scope : Scope} {dvs : List V} {kws : List (Str × V)} {f : Addr} {fd : FuncData} {cx : CXT} {N ps : List Str} {k : Nat} {sp : Sp}
    (F : FunD K x qual params body scope dvs kws f fd) (S : FnScope N ps scope) (len : ∀ vs H Q E, sp vs H Q E → vs.length = ps.length)
    (hbody : ∀ (cdv : Value) (A : Around) (outer : List Env) (s : Shared) (H : Hp) (vs : List V) (Q : VK) (E : XK), A.guards = some [] → Room k (A.deeper (envOfC qual scope s.heap.objs.size f cdv)) → sp vs H Q E →
      ∃ t, PSs (cxOf cx P w K mg base N qual scope f cdv A outer s H E) body t ∧ t { nx := fun _ H' => Q .non H', rt := Q } (start N vs) H) : FnG P w K mg base cx (k + 1) f fd ps sp := by
  obtain ⟨oc, od, dV, kV, doc, pm, an, cdv, ct, osl, rfl, lk, hcd, _, _⟩ := F.ex
  constructor
  · exact len
  intro A outer s H args us vs Q E gu hr e0 hb r hsp
  have nvs := len _ _ _ _ hsp
  have keepB : ∀ b o, base.get? b = some o → s.heap.get? b = some o := fun b o e => (e0.bs b o e).1
  have kin := e0.mod.kin.keeps keepB
  have hps : ∀ y ∈ ps.zip us, scope.names.lookup y.1 = some .local ∨ (scope.names.lookup y.1 = some .cell ∧ ((cellsFrom (s.heap.objs.size + 1) scope.names []).lookup y.1).isSome = true) := by
    rintro ⟨y, v⟩ hy
    cases S.par y (List.of_mem_zip hy).1 with
    | inl q => exact Or.inl q
    | inr q => exact Or.inr ⟨q, PySem.W.cellsFrom_some _ _ _ (Or.inl q)⟩
  refine codeAny_call_function hr.depth (kin _ _ lk) rfl S.co S.gen rfl (PySem.W.codeRec_of kin hcd) (hb _ _ _ _ (wpAny_newFunctionEnv_cells S.kind hps ?_))
  intro env he s1 x1
  subst he
  refine ⟨(e0.mod.nolimit.keeps keepB).keeps x1.toInCall.keep, codeAny_func ?_⟩
  obtain ⟨t, ht, hq⟩ := hbody cdv A outer s H vs Q E gu (hr.deeper _) hsp
  have I0 : Inv (cxOf cx P w K mg base N qual scope f cdv A outer s H E) [] (start N vs) H s1 := inv_start S hr.hd e0 nvs r x1
  have done : ∀ {σ' : L2.St} {H' : Hp} {v : V} {u : Value} {s' : Shared}, Inv (cxOf cx P w K mg base N qual scope f cdv A outer s H E) [] σ' H' s' → RelV v u → Q v H' → CE outer P w H s Q u s' := by
    intro σ' H' v u s' J rv q
    exact ⟨v, H', J.os, J.bare, J.base, J.hok, rv, q⟩
  refine wpAny_mono (ht.run [] s1 _ H _ I0 hq) ?_ fun _ _ hs => hs
  intro fl s' hs
  rcases fl with _ | _ | _ | u
  all_goals first
    | (obtain ⟨_, _, J, q⟩ := hs; exact done (v := V.non) (u := Value.none) J rfl q)
    | (obtain ⟨_, _, _, J, rv, q⟩ := hs; exact done J rv q)
    | (obtain ⟨_, _, _, q⟩ := hs; exact False.elim q)
/-! ### repr -/
def rRepr (K : PySem.W.Frag) : List V → Hp → VK → Prop := fun xs H Q => (∃ (v : V) (d : PyData), xs = [v] ∧ Dp K H v d ∧ d.showable = true ∧ d.hasDict = false ∧ d.shown.length ≤ sizeLine ∧ d.depth ≤ 100 ∧ Q (.str d.shown) H) ∨
  (∃ a : Addr, xs = [.ref a] ∧ H a = some (.dK []) ∧ Q (.str (PyData.dict []).shown) H)
theorem cr_repr {X : Cx} (gu : X.A.guards = some []) (hu : X.A.units + 200 < cLine) : CallR X (.builtin "repr") (rRepr X.K) := by
  intro pins s σ H xs us Q I r h
  rcases h with ⟨v, d, rfl, dp, h1, h2, h3, h4, q⟩ | ⟨a, rfl, ha, q⟩
  · cases r with
    | cons ru rr =>
      cases rr
      obtain ⟨as, rd⟩ := Dp.reads I d v _ dp ru
      have big : ∀ {c : Addr} {bs : List Addr}, Reads s.heap (.ref c) d bs → wpAny (model X.prog X.w) X.A (call (.builtin "repr") [.ref c]) (EP X pins σ Q) X.xe s := by
        intro c bs rd2
        exact repr_of_reads' (h₀ := s.heap) rd2 h1 (PyData.noDict_hsm h2) gu (by omega) (fun b o e => e) (fun h' u tk hk => ⟨.str _, H, I.kept (t' := tk) hk, ⟨_, rfl⟩, q⟩) h3
      cases rd with
      | none =>
        simp only [PyData.shown] at q
        exact P.repr_of_none ⟨.str _, H, I.tok _, ⟨_, rfl⟩, q⟩
      | bool b =>
        simp only [PyData.shown] at q
        exact P.repr_of_bool ⟨.str _, H, I.tok _, ⟨_, rfl⟩, q⟩
      | int i t =>
        simp only [PyData.shown] at q
        exact P.repr_of_int (by simpa [PyData.showable] using h1) ⟨.str _, H, I.tok _, ⟨_, rfl⟩, q⟩
      | str x t =>
        simp only [PyData.shown] at q h3
        exact P.repr_of_str ⟨.str _, H, I.tok _, ⟨_, rfl⟩, q⟩ h3
      | list e1 e2 e3 e4 => exact big (.list e1 e2 e3 e4)
      | tuple e1 e2 e3 e4 => exact big (.tuple e1 e2 e3 e4)
      | dict e1 e2 e3 e4 e5 => exact absurd h2 (by simp [PyData.hasDict])
  · cases r with
    | cons ru rr =>
      cases rr
      cases ru
      obtain ⟨_, hs, vs, kv, hd⟩ := I.hok a _ ha
      have hv : vs = [] := by cases kv; rfl
      subst hv
      obtain ⟨o, es, ep, e1, e2, e3, e4, e5, e6⟩ := hd
      have hes : es.toList = [] := by
        cases z : es.toList with
        | nil => rfl
        | cons y l => rw [z] at e5; cases e5
      have rd : Reads s.heap (.ref a) (.dict []) [a] := .dict (as := []) (bs := []) e1 e2.1 e3 (by rw [hes]; exact .nil) (by rw [hes]; exact .nil)
      exact repr_of_reads' (h₀ := s.heap) rd rfl (fun _ hm => by
        have e : sysModules = a := List.mem_singleton.mp hm
        rw [e, beq_self_eq_true] at hs
        cases hs) gu (by
          show X.A.units + ((PyData.dict []).depth + 1) < cLine
          have : (PyData.dict []).depth ≤ 1 := by decide
          omega) (fun b o e => e) (fun h' u tk hk => ⟨.str _, H, I.kept (t' := tk) hk, ⟨_, rfl⟩, q⟩) (by rw [sizeLine_eq]; decide +kernel)
end CZ

set_option Elab.async false
set_option linter.all false
set_option maxRecDepth 100000
set_option maxHeartbeats 4000000
/-! CZ5: which Python is which tree; expressions do what the tree says. -/
namespace CZ
open PySem PySem.Spec PyProof.Rows L2

/-! ### readings -/
def TD (K : PySem.W.Frag) (Φ : Orac) (c : C) : TE := fun σ H Q => ∃ w ρ M d M', w.H = H ∧ RS K w M ∧ RE K w σ ρ ∧ ev Φ c ρ M = .ok d M' ∧ ∀ w' v, Ext w w' → RS K w' M' → Rp K w' v d → Q v w'.H
def TT (K : PySem.W.Frag) (Φ : Orac) (c : C) : L2.TT := fun σ H Q => ∃ w ρ M b M', w.H = H ∧ RS K w M ∧ RE K w σ ρ ∧ tst Φ c ρ M = .ok b M' ∧ ∀ w', Ext w w' → RS K w' M' → Q b w'.H
def TDs (K : PySem.W.Frag) (Φ : Orac) (cs : Cs) : TA := fun σ H Q => ∃ w ρ M ds M', w.H = H ∧ RS K w M ∧ RE K w σ ρ ∧ evs Φ cs ρ M = .ok ds M' ∧ ∀ w' vs, Ext w w' → RS K w' M' → Rps K w' vs ds → Q vs w'.H
section
variable {X : Cx} {e : Expr}
theorem PE.weak {t t' : TE} (h : PE X e t) (i : ∀ σ H Q, t' σ H Q → t σ H Q) : PE X e t' := ⟨fun pins s σ H Q I q => h.run pins s σ H Q I (i σ H Q q)⟩
theorem PT.weak {t t' : L2.TT} (h : PT X e t) (i : ∀ σ H Q, t' σ H Q → t σ H Q) : PT X e t' := ⟨fun pins s σ H Q I q => h.run pins s σ H Q I (i σ H Q q)⟩
theorem PW.weak {t t' : L2.TT} (h : PW X e t) (i : ∀ σ H Q, t' σ H Q → t σ H Q) : PW X e t' := ⟨fun wh pins s σ H Q I q => h.run wh pins s σ H Q I (i σ H Q q)⟩
theorem PA.weak {es : List Expr} {t t' : TA} (h : PA X es t) (i : ∀ σ H Q, t' σ H Q → t σ H Q) : PA X es t' := ⟨fun p pins s σ H Q I q => h.run p pins s σ H Q I (i σ H Q q)⟩
theorem PK.weak {es : List Keyword} {t t' : TA} (h : PK X es t) (i : ∀ σ H Q, t' σ H Q → t σ H Q) : PK X es t' := ⟨fun p pins s σ H Q I q => h.run p pins s σ H Q I (i σ H Q q)⟩
theorem PI.weak {tg : Expr} {t t' : TI} (h : PI X tg e t) (i : ∀ σ H R, t' σ H R → t σ H R) : PI X tg e t' := ⟨fun pins s σ H R I q => h.run pins s σ H R I (i σ H R q)⟩
theorem PG.weak {t t' : TG} (h : PG X e t) (i : ∀ v σ H Q, t' v σ H Q → t v σ H Q) : PG X e t' := ⟨fun pins s σ H v u Q I r q => h.run pins s σ H v u Q I r (i v σ H Q q)⟩
end

/-! ### the context -/
structure Gam where
  N : List Str
  fns : List (Str × List Str)
  kws : List (Str × Nat × List Str × List Nat)
  blt : List Str
  conI : List (Str × Int)
  conS : List (Str × Str)
/-- a def's promise: what the oracle tells -/
def spD (K : PySem.W.Frag) (Φ : Orac) (f : Str) (n : Nat) : Sp := fun vs H Q _ => ∃ w M ds d M', w.H = H ∧ RS K w M ∧ Rps K w vs ds ∧ Φ f ds M = .ok d M' ∧ vs.length = n ∧ ∀ w' v, Ext w w' → RS K w' M' → Rp K w' v d → Q v w'.H
def perm {α : Type} (p : List Nat) (us ws : List α) : List α := p.filterMap fun i => (us ++ ws)[i]?
structure Gd (X : Cx) (G : Gam) (sc : Scope) (cf : Str → Bool) (Φ : Orac) (n : Nat) : Prop where
  N : X.N = G.N
  nd : X.N.Nodup
  scp : X.env.scope = sc
  kind : sc.kind = .function
  calm : X.calm = true
  room : Room n X.A
  gu : X.A.guards = some []
  cf : ∀ x, cf x = true → X.fn x = true
  blt : ∀ x, x ∈ G.blt → X.mg x = none
  conI : ∀ x i, (x, i) ∈ G.conI → ∃ t, X.mg x = some (.int i t)
  conS : ∀ x i, (x, i) ∈ G.conS → ∃ t, X.mg x = some (.str i t)
  fns : ∀ f ps, (f, ps) ∈ G.fns → ∃ a fd, X.mg f = some (.ref a) ∧ PySem.W.keepIn X.K (.ref a) = true ∧ Binds X.K fd ps [] ∧
    (∀ m ks p, (f, m, ks, p) ∈ G.kws → KBn X.K fd ps m ks (fun us ws => perm p us ws) (fun vs zs => perm p vs zs)) ∧ FnG X.prog X.w X.K X.mg X.base (L2.CX X.prog X.w) n a fd ps (spD X.K Φ f ps.length)

/-! ### which Python is which tree -/
def notStar : Expr → Bool
  | .Starred _ _ => false
  | _ => true
def visB (G : Gam) (sc : Scope) (x : Str) (i : Nat) : Bool := decide (G.N[i]? = some x) && (match sc.names.lookup x with
  | some .local => true
  | some .cell => true
  | some .free => true
  | _ => false) && !(x == ("__debug__" : Str)) && !(x == ("__classdict__" : Str))
def locB (G : Gam) (cf : Str → Bool) (sc : Scope) (x : Str) (i : Nat) : Bool := decide (G.N[i]? = some x) && (match sc.names.lookup x with
  | some .local => true
  | some .cell => cf x
  | _ => false)
def glB (sc : Scope) (x : Str) : Bool := (match sc.names.lookup x with
  | some .globalImplicit => true
  | _ => false) && !(x == ("__debug__" : Str))
def bltB (G : Gam) (sc : Scope) (x : Str) : Bool := glB sc x && decide (x ∈ G.blt) && decide (x ≠ ("__name__" : Str))
/-- a test by the truth of its value, or by its own form -/
def tst1 : Expr → Bool
  | .Name _ _ => true
  | .Call _ _ _ _ => true
  | .Subscript _ _ _ => true
  | .Constant _ _ _ => true
  | .Compare _ _ _ _ => true
  | .BoolOp _ _ _ => true
  | .UnaryOp .Not _ _ => true
  | _ => false
def isKN : C → Bool
  | .kN => true
  | _ => false
def BI.nm : BI → Str
  | .len => "len" | .abs => "abs" | .min2 => "min" | .max2 => "max" | .sum => "sum" | .min1 => "min" | .max1 => "max" | .all => "all" | .any => "any" | .tuple => "tuple" | .list => "list" | .int => "int" | .sorted => "sorted" | .str => "str"
def TN.nm : TN → Str
  | .int => "int" | .str => "str" | .bool => "bool" | .tuple => "tuple" | .list => "list"
def TN.id : TN → String
  | .int => "int" | .str => "str" | .bool => "bool" | .tuple => "tuple" | .list => "list"
def MI.nm : MI → Str
  | .append => "append" | .extend => "extend" | .pop => "pop"
def tgB (G : Gam) (cf : Str → Bool) (sc : Scope) : List Expr → List Nat → Bool
  | [], [] => true
  | .Name x _ :: es, i :: is => locB G cf sc x i && tgB G cf sc es is
  | _, _ => false
def tgtB (G : Gam) (cf : Str → Bool) (sc : Scope) (e : Expr) (t : Tg) : Bool := match t with
  | .nm i => (match e with
    | .Name x _ => locB G cf sc x i
    | _ => false)
  | .tp l => (match e with
    | .Tuple es _ _ => tgB G cf sc es l && decide l.Nodup
    | _ => false)
def ownOf : List Expr → List Nat → List (Str × Nat)
  | .Name x _ :: es, i :: is => (x, i) :: ownOf es is
  | _, _ => []
def ownT (e : Expr) (t : Tg) : List (Str × Nat) := match t, e with
  | .nm i, .Name x _ => [(x, i)]
  | .tp l, .Tuple es _ _ => ownOf es l
  | _, _ => []
def notSet : Expr → Bool
  | .Set _ _ _ => false
  | _ => true
def isTup : Expr → Bool
  | .Tuple _ _ _ => true
  | _ => false
def kwN : List Keyword → List Str
  | [] => []
  | ⟨some x, _, _⟩ :: r => x :: kwN r
  | ⟨none, _, _⟩ :: r => kwN r
mutual
def chkE (G : Gam) : C → (Str → Bool) → Scope → Expr → Bool
  | .var i, _, sc, e => (match e with
    | .Name x _ => visB G sc x i
    | _ => false)
  | .kN, _, _, e => (match e with
    | .Constant .none _ _ => true
    | _ => false)
  | .kB b, _, _, e => (match e with
    | .Constant (.bool b') _ _ => b == b'
    | _ => false)
  | .kI i, _, _, e => (match e with
    | .Constant (.int j) _ _ => decide (i = j)
    | _ => false)
  | .kS i, _, _, e => (match e with
    | .Constant (.str j) _ _ => decide (i = j)
    | _ => false)
  | .glo x d, _, sc, e => (match e with
    | .Name y _ => decide (x = y) && glB sc x && (match d with
      | .int i => decide ((x, i) ∈ G.conI)
      | .str i => decide ((x, i) ∈ G.conS)
      | _ => false)
    | _ => false)
  | .bin o a b, cf, sc, e => (match e with
    | .BinOp x op y _ => decide (op = o.op) && chkE G a cf sc x && chkE G b cf sc y
    | _ => false)
  | .binL o a b, cf, sc, e => (match e with
    | .BinOp x op y _ => decide (op = o.op) && chkE G a cf sc x && chkE G b cf sc y
    | _ => false)
  | .slcL a lo hi, cf, sc, e => (match e with
    | .Subscript x (.Slice l h none _) _ => chkE G a cf sc x && (match l with
      | none => isKN lo
      | some y => chkE G lo cf sc y && !isKN lo) && (match h with
      | none => isKN hi
      | some y => chkE G hi cf sc y && !isKN hi)
    | _ => false)
  | .neg a, cf, sc, e => (match e with
    | .UnaryOp .USub x _ => chkE G a cf sc x
    | _ => false)
  | .cmp o a b, cf, sc, e => (match e with
    | .Compare x [op] [y] _ => decide (op = o.op) && chkE G a cf sc x && chkE G b cf sc y && !(behindInMarks op y)
    | _ => false)
  | .chn o p a b c, cf, sc, e => (match e with
    | .Compare x [op, op'] [y, z] _ => decide (op = o.op) && decide (op' = p.op) && chkE G a cf sc x && chkE G b cf sc y && chkE G c cf sc z && !(lastMarks [op, op'] [y, z])
    | _ => false)
  | .isN a, cf, sc, e => (match e with
    | .Compare x [.Is] [.Constant .none _ _] _ => chkE G a cf sc x
    | _ => false)
  | .notN a, cf, sc, e => (match e with
    | .Compare x [.IsNot] [.Constant .none _ _] _ => chkE G a cf sc x
    | _ => false)
  | .and a b, cf, sc, e => (match e with
    | .BoolOp .And (x :: y :: r) pos => chkE G a cf sc x && tst1 x && (match r with
      | [] => chkE G b cf sc y && tst1 y
      | z :: r => chkE G b cf sc (.BoolOp .And (y :: z :: r) pos))
    | _ => false)
  | .or a b, cf, sc, e => (match e with
    | .BoolOp .Or (x :: y :: r) pos => chkE G a cf sc x && tst1 x && (match r with
      | [] => chkE G b cf sc y && tst1 y
      | z :: r => chkE G b cf sc (.BoolOp .Or (y :: z :: r) pos))
    | _ => false)
  | .not a, cf, sc, e => (match e with
    | .UnaryOp .Not x _ => chkE G a cf sc x && tst1 x
    | _ => false)
  | .ifx c a b, cf, sc, e => (match e with
    | .IfExp x y z _ => chkE G c cf sc x && tst1 x && chkE G a cf sc y && chkE G b cf sc z
    | _ => false)
  | .tup es, cf, sc, e => (match e with
    | .Tuple xs _ _ => chkEs G es cf sc xs
    | _ => false)
  | .lst _ es, cf, sc, e => (match e with
    | .List xs _ => chkEs G es cf sc xs
    | _ => false)
  | .idx a b, cf, sc, e => (match e with
    | .Subscript x y _ => chkE G a cf sc x && chkE G b cf sc y && (match y with
      | .Slice _ _ _ _ => false
      | _ => true)
    | _ => false)
  | .slc a lo hi, cf, sc, e => (match e with
    | .Subscript x (.Slice l h none _) _ => chkE G a cf sc x && (match l with
      | none => isKN lo
      | some y => chkE G lo cf sc y && !isKN lo) && (match h with
      | none => isKN hi
      | some y => chkE G hi cf sc y && !isKN hi)
    | _ => false)
  | .rev a, cf, sc, e => (match e with
    | .Subscript x (.Slice none none (some (.UnaryOp .USub (.Constant (.int 1) _ _) _)) _) _ => chkE G a cf sc x
    | _ => false)
  | .call f _ es, cf, sc, e => (match e with
    | .Call (.Name x _) (y :: r) [] _ => decide (x = f) && glB sc x && (G.fns.any fun p => decide (p.1 = f) && decide (p.2.length = (y :: r).length)) && chkEs G es cf sc (y :: r)
    | .Call (.Name x _) [] [] _ => decide (x = f) && glB sc x && (G.fns.any fun p => decide (p.1 = f) && decide (p.2.length = 0)) && chkEs G es cf sc []
    | _ => false)
  | .callK f _ es ws p, cf, sc, e => (match e with
    | .Call (.Name x _) r kws _ => decide (x = f) && glB sc x && (G.fns.any fun q => decide (q.1 = f) && decide (q.2.length = p.length)) && decide ((f, r.length, kwN kws, p) ∈ G.kws) && chkEs G es cf sc r && chkKs G ws cf sc kws
    | _ => false)
  | .blt b _ es, cf, sc, e => (match e with
    | .Call (.Name x _) (y :: r) [] _ => decide (x = b.nm) && bltB G sc x && chkEs G es cf sc (y :: r)
    | _ => false)
  | .lrev _ a, cf, sc, e => (match e with
    | .Call (.Name x _) [.Call (.Name y _) [z] [] _] [] _ => decide (x = ("list" : Str)) && decide (y = ("reversed" : Str)) && bltB G sc x && bltB G sc y && chkE G a cf sc z && notStar z
    | _ => false)
  | .sset _ a, cf, sc, e => (match e with
    | .Call (.Name x _) [.Call (.Name y _) [z] [] _] [] _ => decide (x = ("sorted" : Str)) && decide (y = ("set" : Str)) && bltB G sc x && bltB G sc y && chkE G a cf sc z && notStar z
    | _ => false)
  | .mth m o es, cf, sc, e => (match e with
    | .Call (.Attribute x y apos) r [] cpos => decide (y = m.nm) && (match x with
      | .Name _ _ => true
      | .Subscript _ _ _ => true
      | _ => false) && (apos.endLine == cpos.line) && decide (r.length < 29) && chkE G o cf sc x && chkEs G es cf sc r
    | _ => false)
  | .comp _ elt tg it cond, cf, sc, e => (match e with
    | .ListComp x [⟨t, i, ifs, a⟩] scope _ => decide (a = 0) && chkI G it cf sc t i && blkC G.N sc scope (ownT t tg) && notSet i &&
        tgtB G (fun y => scope.names.lookup y == some .cell) (relS scope sc) t tg && chkE G elt (fun y => scope.names.lookup y == some .cell) (relS scope sc) x && (match ifs with
        | [] => (match cond with
          | .kB true => true
          | _ => false)
        | [y] => chkE G cond (fun y => scope.names.lookup y == some .cell) (relS scope sc) y && tst1 y
        | _ => false)
    | _ => false)
  | .frz a, cf, sc, e => (match e with
    | .Name x p => chkE G a cf sc (.Name x p)
    | _ => false)
  | .emp, _, _, e => (match e with
    | .Dict [] [] _ => true
    | _ => false)
  | .rpr a, cf, sc, e => (match e with
    | .Call (.Name x _) [y] [] _ => decide (x = ("repr" : Str)) && bltB G sc x && chkE G a cf sc y && notStar y
    | _ => false)
  | .isi a t, cf, sc, e => (match e with
    | .Call (.Name x _) [y, .Name z _] [] _ => decide (x = ("isinstance" : Str)) && decide (z = t.nm) && bltB G sc x && bltB G sc z && chkE G a cf sc y && notStar y
    | _ => false)
def chkEs (G : Gam) : Cs → (Str → Bool) → Scope → List Expr → Bool
  | .nil, _, _, es => es.isEmpty
  | .cons c r, cf, sc, es => (match es with
    | x :: xs => notStar x && chkE G c cf sc x && chkEs G r cf sc xs
    | [] => false)
def chkKs (G : Gam) : Cs → (Str → Bool) → Scope → List Keyword → Bool
  | .nil, _, _, es => es.isEmpty
  | .cons c r, cf, sc, es => (match es with
    | ⟨some _, x, _⟩ :: xs => chkE G c cf sc x && chkKs G r cf sc xs
    | _ => false)
/-- what is walked, for a target -/
def chkI (G : Gam) : It → (Str → Bool) → Scope → Expr → Expr → Bool
  | .seq c, cf, sc, _, e => chkE G c cf sc e
  | .rng lo hi, cf, sc, _, e => (match e with
    | .Call (.Name x _) [y] [] _ => decide (x = ("range" : Str)) && bltB G sc x && (match lo with
      | .kI 0 => true
      | _ => false) && chkE G hi cf sc y && notStar y
    | .Call (.Name x _) [y, z] [] _ => decide (x = ("range" : Str)) && bltB G sc x && chkE G lo cf sc y && chkE G hi cf sc z && notStar y && notStar z
    | _ => false)
  | .zip a b, cf, sc, t, e => (match e with
    | .Call (.Name x _) [y, z] [] _ => decide (x = ("zip" : Str)) && bltB G sc x && chkE G a cf sc y && chkE G b cf sc z && notStar y && notStar z && isTup t
    | _ => false)
  | .rngd lo hi, cf, sc, t, e => (match e with
    | .Call (.Name x _) [y, z, .UnaryOp .USub (.Constant (.int 1) _ _) _] [] _ => decide (x = ("range" : Str)) && bltB G sc x && chkE G lo cf sc y && chkE G hi cf sc z && notStar y && notStar z
    | _ => false)
  | .rvs a, cf, sc, t, e => (match e with
    | .Call (.Name x _) [y] [] _ => decide (x = ("reversed" : Str)) && bltB G sc x && chkE G a cf sc y && notStar y
    | _ => false)
  | .enm a, cf, sc, t, e => (match e with
    | .Call (.Name x _) [y] [] _ => decide (x = ("enumerate" : Str)) && bltB G sc x && chkE G a cf sc y && notStar y && isTup t
    | _ => false)
end
end CZ

set_option Elab.async false
set_option linter.all false
set_option maxRecDepth 100000
set_option maxHeartbeats 8000000
/-! CZ6: expressions do what the tree says. -/
namespace CZ
open PySem PySem.Spec PyProof.Rows L2

structure SndE (X : Cx) (Φ : Orac) (e : Expr) (c : C) : Prop where
  pe : PE X e (TD X.K Φ c)
  pt : tst1 e = true → PT X e (TT X.K Φ c)
  pw : ∀ op es pos, e = .BoolOp op es pos → PW X e (TT X.K Φ c)
def SndI (X : Cx) (Φ : Orac) (tg e : Expr) (it : It) : Prop := PI X tg e (fun σ H R => ∃ w ρ M xs M', w.H = H ∧ RS X.K w M ∧ RE X.K w σ ρ ∧ evI Φ it ρ M = .ok xs M' ∧ ∀ w' J, Ext w w' → RS X.K w' M' →
  ((∀ (i : Nat) w1, Ext w' w1 → i < xs.length → J.go i w1.H) ∧ (∀ (i : Nat) w1, Ext w' w1 → xs.length ≤ i → J.stop i w1.H) ∧
    ∀ (i : Nat) w1 x H', Ext w' w1 → (∃ M1, RS X.K w1 M1) → J.yld i w1.H x H' → i < xs.length → ∃ w2 d, w2.H = H' ∧ Ext w1 w2 ∧ (∀ M1, RS X.K w1 M1 → RS X.K w2 M1) ∧ xs[i]? = some d ∧ Rp X.K w2 x d) → R J w'.H)
section
variable {X : Cx} {G : Gam} {sc : Scope} {cf : Str → Bool} {Φ : Orac} {n : Nat}
theorem Gd.hu (g : Gd X G sc cf Φ n) : X.A.units + 64 < cLine := g.room.units
theorem vis_of (g : Gd X G sc cf Φ n) {x : Str} {i : Nat} (h : visB G sc x i = true) : X.N[i]? = some x ∧ Vis X.env.scope x ∧ (x == ("__debug__" : Str)) = false ∧ (x == ("__classdict__" : Str)) = false := by
  unfold visB at h
  simp only [Bool.and_eq_true, decide_eq_true_eq, Bool.not_eq_true'] at h
  obtain ⟨⟨⟨h1, h2⟩, h3⟩, h4⟩ := h
  refine ⟨by rw [g.N]; exact h1, ?_, h3, h4⟩
  rw [g.scp]
  unfold Vis
  split at h2 <;> simp_all
theorem loc_of (g : Gd X G sc cf Φ n) {x : Str} {i : Nat} (h : locB G cf sc x i = true) : X.N[i]? = some x ∧ L2.Loc X.env.scope x ∧ (X.fn x = true ∨ X.env.scope.names.lookup x = some .local) := by
  unfold locB at h
  simp only [Bool.and_eq_true, decide_eq_true_eq] at h
  obtain ⟨h1, h2⟩ := h
  refine ⟨by rw [g.N]; exact h1, ?_⟩
  rw [g.scp]
  unfold L2.Loc
  split at h2
  · rename_i q; exact ⟨.inl q, .inr q⟩
  · rename_i q; exact ⟨.inr q, .inl (g.cf x h2)⟩
  · cases h2
theorem gl_of (g : Gd X G sc cf Φ n) {x : Str} (h : glB sc x = true) : Gl X x ∧ (x == ("__debug__" : Str)) = false := by
  unfold glB at h
  simp only [Bool.and_eq_true, Bool.not_eq_true'] at h
  refine ⟨?_, h.2⟩
  show X.env.scope.names.lookup x = _
  rw [g.scp]
  have h1 := h.1
  split at h1
  · assumption
  · cases h1
theorem blt_of (g : Gd X G sc cf Φ n) {x : Str} (h : bltB G sc x = true) : Gl X x ∧ X.mg x = none ∧ x ≠ ("__name__" : Str) ∧ (x == ("__debug__" : Str)) = false := by
  unfold bltB at h
  simp only [Bool.and_eq_true, decide_eq_true_eq] at h
  obtain ⟨⟨h1, h2⟩, h3⟩ := h
  obtain ⟨a, b⟩ := gl_of g h1
  exact ⟨a, g.blt x h2, h3, b⟩
theorem star_eq {x : Expr} {es : List Expr} {env : Env} (h : notStar x = true) : starEach (x :: es) env = (false, eval x env) :: starEach es env := by
  cases x <;> first | rfl | cases h
def allNS : List Expr → Bool
  | [] => true
  | x :: r => notStar x && allNS r
theorem star_plain : ∀ {es : List Expr} {env : Env} {pos : Pos}, allNS es = true → (backTo pos (starEach es env)).any (·.1) = false
  | [], _, _, _ => rfl
  | x :: r, env, pos, h => by
    have h' : (notStar x && allNS r) = true := h
    rw [Bool.and_eq_true] at h'
    rw [star_eq h'.1]
    show (false || (backTo pos (starEach r env)).any (·.1)) = false
    rw [star_plain h'.2] <;> rfl
theorem star_few : ∀ {es : List Expr} {env : Env} {pos : Pos}, allNS es = true → (backTo pos (starEach es env)).all (fun x => !x.1) = true
  | [], _, _, _ => rfl
  | x :: r, env, pos, h => by
    have h' : (notStar x && allNS r) = true := h
    rw [Bool.and_eq_true] at h'
    rw [star_eq h'.1]
    show (true && (backTo pos (starEach r env)).all (fun x => !x.1)) = true
    rw [star_few h'.2] <;> rfl
theorem chkEs_ns : ∀ {es : Cs} {xs : List Expr}, chkEs G es cf sc xs = true → allNS xs = true
  | .nil, [], _ => rfl
  | .nil, _ :: _, h => by simp [chkEs] at h
  | .cons c r, [], h => by simp [chkEs] at h
  | .cons c r, x :: xs, h => by
    simp only [chkEs, Bool.and_eq_true] at h
    show (notStar x && allNS xs) = true
    rw [h.1.1, chkEs_ns h.2] <;> rfl
/-- where the test is the value's truth -/
theorem truthy_plain {e : Expr} {env : Env} (h : tst1 e = true) (h1 : ∀ op es pos, e ≠ .BoolOp op es pos) (h2 : ∀ a b c d, e ≠ .Compare a b c d) (h3 : ∀ x p, e ≠ .UnaryOp .Not x p) : ∀ whole, isTrue e env whole = (do let v ← whole; standAt e.pos; holding [v] (truthy v)) := by
  intro whole
  cases e <;> first
    | rfl
    | exact absurd rfl (h1 _ _ _)
    | exact absurd rfl (h2 _ _ _ _)
    | exact absurd h Bool.false_ne_true
    | (rename_i op x p; cases op <;> first | exact absurd rfl (h3 _ _) | exact absurd h Bool.false_ne_true)
theorem pt_of_pe {e : Expr} {c : C} (h : PE X e (TD X.K Φ c)) (he : ∀ whole, isTrue e X.env whole = (do let v ← whole; standAt e.pos; holding [v] (truthy v))) : PT X e (TT X.K Φ c) := by
  refine PT.weak (pt_truth h he) fun σ H Q q => ?_
  obtain ⟨w, ρ, M, b, M', rfl, R, E, e1, k⟩ := q
  obtain ⟨d, M1, e2, e3⟩ := Res.bind_eq_ok e1
  obtain ⟨e4, rfl⟩ := opt_eq_ok e3
  exact ⟨w, ρ, M, d, M1, rfl, R, E, e2, fun w1 v1 X1 R1 p1 => ⟨b, truV_of R1 p1 e4, k w1 X1 R1⟩⟩
/-- a value whose test is by its value's truth alone -/
theorem SndE.mk' {e : Expr} {c : C} (h : PE X e (TD X.K Φ c)) (h1 : ∀ op es pos, e ≠ .BoolOp op es pos) (h2 : ∀ a b c d, e ≠ .Compare a b c d) (h3 : ∀ x p, e ≠ .UnaryOp .Not x p) : SndE X Φ e c :=
  ⟨h, fun t => pt_of_pe h (truthy_plain t h1 h2 h3), fun op es pos q => absurd q (h1 op es pos)⟩
theorem pt_tb {e : Expr} {c : C} {t : TE} (h : PT X e (tTest t)) (i : ∀ σ H Q, TD X.K Φ c σ H Q → t σ H Q) (hb : ∀ ρ M d M', ev Φ c ρ M = .ok d M' → ∃ b, d = .bl b) : PT X e (TT X.K Φ c) := by
  refine PT.weak h fun σ H Q q => ?_
  obtain ⟨w, ρ, M, b, M', rfl, R, E, e1, k⟩ := q
  obtain ⟨d, M1, e2, e3⟩ := Res.bind_eq_ok e1
  obtain ⟨e4, rfl⟩ := opt_eq_ok e3
  obtain ⟨b', rfl⟩ := hb _ _ _ _ e2
  refine i _ _ _ ⟨w, ρ, M, _, M1, rfl, R, E, e2, fun w1 v1 X1 R1 p1 => ?_⟩
  cases p1
  have : b' = b := Option.some.inj e4
  subst this
  exact ⟨b', rfl, k w1 X1 R1⟩
theorem boot_of (b : BI) : bootBuiltins b.nm = some b.val := by
  cases b <;> decide +kernel
theorem boot_tn (t : TN) : bootBuiltins t.nm = some (.type t.id) := by
  cases t <;> decide +kernel

/-! ### targets -/
/-- the slots that a target stores -/
def Tg.slots : Tg → List Nat
  | .nm i => [i]
  | .tp l => l
def TDG (K : PySem.W.Frag) (t : Tg) : TG := fun v σ H Q => ∃ w ρ d ρ', w.H = H ∧ RE K w σ ρ ∧ Rp K w v d ∧ setT t d ρ = some ρ' ∧ ∀ σ', RE K w σ' ρ' → (∀ j, j ∉ t.slots → σ'[j]? = σ[j]?) → σ'.length = σ.length → Q σ' H
theorem pgs_of (g : Gd X G sc cf Φ n) : ∀ {es : List Expr} {l : List Nat}, tgB G cf sc es l = true → PGs X es (fun vs σ H Q => ∃ w ρ ds, w.H = H ∧ RE X.K w σ ρ ∧ Rps X.K w vs ds ∧ ds.length = l.length ∧
    ∀ σ', RE X.K w σ' ((l.zip ds).foldl (fun r p => r.set p.1 (some p.2)) ρ) → (∀ j, j ∉ l → σ'[j]? = σ[j]?) → σ'.length = σ.length → Q σ' H) ∧ (∀ env, (assignEach es env).length = es.length ∧ (assignEach es env).findIdx? (·.1) = none ∧ es.length = l.length)
  | [], [], _ => by
    refine ⟨⟨fun pins s σ H vs us Q I r h => ?_⟩, fun env => ⟨rfl, rfl, rfl⟩⟩
    obtain ⟨w, ρ, ds, rfl, E, R, hl, k⟩ := h
    cases ds with
    | nil =>
      cases R
      exact pgs_nil.run pins s σ w.H [] us Q I r ⟨rfl, k σ E (fun _ _ => rfl) rfl⟩
    | cons _ _ => cases hl
  | [], _ :: _, h => by simp [tgB] at h
  | e :: es, l, h => by
    cases e <;> cases l <;> first | (simp [tgB] at h; done) | skip
    rename_i x pos i is
    simp only [tgB, Bool.and_eq_true] at h
    obtain ⟨h1, h2, h3⟩ := loc_of g h.1
    obtain ⟨q1, q2⟩ := pgs_of g h.2
    refine ⟨⟨fun pins s σ H vs us Q I r hq => ?_⟩, fun env => ?_⟩
    · obtain ⟨w, ρ, ds, rfl, E, R, hl, k⟩ := hq
      cases ds with
      | nil => cases hl
      | cons d ds =>
        cases R with
        | @cons v _ vs _ p ps =>
        refine (pgs_cons (pg_name (i := i) g.nd h1 h2 h3) q1).run pins s σ w.H _ us Q I r ⟨v, vs, rfl, ?_⟩
        refine ⟨w, ρ.set i (some d), ds, rfl, E.set i p, ps, Nat.succ.inj hl, fun σ' E' k1 k2 => k σ' E' (fun j hj => ?_) ?_⟩
        · rw [k1 j (fun z => hj (List.mem_cons_of_mem _ z)), List.getElem?_set_ne (fun z => hj (by rw [z]; exact List.mem_cons_self ..))]
        · rw [k2, List.length_set]
    · obtain ⟨a1, a2, a3⟩ := q2 env
      refine ⟨by show (assignEach es env).length + 1 = _; rw [a1] <;> rfl, ?_, congrArg (· + 1) a3⟩
      show List.findIdx? (fun (x : Bool × (Value → Sem Unit)) => x.1) ((false, assign (.Name x pos) env) :: assignEach es env) = none
      rw [List.findIdx?_cons, a2] <;> rfl
theorem pg_of (g : Gd X G sc cf Φ n) {e : Expr} {t : Tg} (h : tgtB G cf sc e t = true) : PG X e (TDG X.K t) := by
  cases t with
  | nm i =>
    cases e <;> first | (simp [tgtB] at h; done) | skip
    obtain ⟨h1, h2, h3⟩ := loc_of g h
    refine PG.weak (pg_name (i := i) g.nd h1 h2 h3) fun v σ H Q q => ?_
    obtain ⟨w, ρ, d, ρ', rfl, E, p, e1, k⟩ := q
    cases e1
    exact k _ (E.set i p) (fun j hj => List.getElem?_set_ne (fun z => hj (by rw [z]; exact List.mem_singleton.mpr rfl))) (List.length_set ..)
  | tp l =>
    cases e <;> first | (simp [tgtB] at h; done) | skip
    rename_i es k0 pos
    have h' : (tgB G cf sc es l && decide l.Nodup) = true := h
    rw [Bool.and_eq_true] at h'
    obtain ⟨q1, q2⟩ := pgs_of g h'.1
    obtain ⟨a1, a2, a3⟩ := q2 X.env
    refine ⟨fun pins s σ H v u Q I r q => ?_⟩
    obtain ⟨w, ρ, d, ρ', rfl, E, p, e1, k⟩ := q
    cases d with
    | tup ds =>
      cases p with
      | @tup a vs _ p1 p2 =>
      have e2 : (if ds.length = l.length then some ((l.zip ds).foldl (fun r p => r.set p.1 (some p.2)) ρ) else none) = some ρ' := e1
      split at e2
      · rename_i hl
        cases e2
        exact (pg_tup g.calm q1 a1 a2).run pins s σ w.H _ u Q I r ⟨a, vs, rfl, SqT.at_ p1, by rw [p2.length, hl, a3], w, ρ, ds, rfl, E, p2, hl, k⟩
      · cases e2
    | lst ds =>
      cases p with
      | @lst a vs _ f p1 p2 =>
      have e2 : (if ds.length = l.length then some ((l.zip ds).foldl (fun r p => r.set p.1 (some p.2)) ρ) else none) = some ρ' := e1
      split at e2
      · rename_i hl
        cases e2
        exact (pg_unl g.calm q1 a1 a2).run pins s σ w.H _ u Q I r ⟨a, vs, rfl, SqL.at_ p1, by rw [p2.length, hl, a3], w, ρ, ds, rfl, E, p2, hl, k⟩
      · cases e2
    | _ => cases e1
end
end CZ

set_option Elab.async false
set_option linter.all false
set_option maxRecDepth 100000
set_option maxHeartbeats 16000000
/-! CZ7: expressions do what the tree says: the theorem. -/
namespace CZ
open PySem PySem.Spec PyProof.Rows L2

section
variable {X : Cx} {G : Gam} {sc : Scope} {cf : Str → Bool} {Φ : Orac} {n : Nat}
/-- one expression, then what is asked of its value -/
theorem td1 {a : C} {t : TE} {σ : L2.St} {w : Wd} {ρ : Env'} {M : Store} {β : Type} {f : D → Store → Res β} {r : β} {M' : Store} {Q : VK} (R : RS X.K w M) (E : RE X.K w σ ρ) (e : (ev Φ a ρ M).bind f = .ok r M')
    (k : ∀ x M1 w1 v1, Ext w w1 → RS X.K w1 M1 → Rp X.K w1 v1 x → f x M1 = .ok r M' → Q v1 w1.H) : TD X.K Φ a σ w.H Q := by
  obtain ⟨x, M1, e1, e2⟩ := Res.bind_eq_ok e
  exact ⟨w, ρ, M, x, M1, rfl, R, E, e1, fun w1 v1 X1 R1 p1 => k x M1 w1 v1 X1 R1 p1 e2⟩
theorem td2 {a b : C} {σ : L2.St} {w : Wd} {ρ : Env'} {M : Store} {β : Type} {f : D → D → Store → Res β} {r : β} {M' : Store} {Q : V → V → Hp → Prop} (R : RS X.K w M) (E : RE X.K w σ ρ) (e : ((ev Φ a ρ M).bind fun x M1 => (ev Φ b ρ M1).bind fun y M2 => f x y M2) = .ok r M')
    (k : ∀ x y M2 w2 v u, Ext w w2 → RS X.K w2 M2 → Rp X.K w2 v x → Rp X.K w2 u y → f x y M2 = .ok r M' → Q v u w2.H) : TD X.K Φ a σ w.H fun v H1 => TD X.K Φ b σ H1 fun u H2 => Q v u H2 := by
  refine td1 (t := TD X.K Φ a) R E e fun x M1 w1 v1 X1 R1 p1 e1 => ?_
  exact td1 (t := TD X.K Φ a) R1 (E.mono X1) e1 fun y M2 w2 v2 X2 R2 p2 e2 => k x y M2 w2 v1 v2 (X1.trans X2) R2 (p1.mono X2) p2 e2
theorem SndE.lit {e : Expr} {c : C} {v : V} {d : D} (h : PE X e (tC v)) (he : ∀ ρ M, ev Φ c ρ M = .ok d M) (hp : ∀ w, Rp X.K w v d) (h1 : ∀ op es pos, e ≠ .BoolOp op es pos) (h2 : ∀ a b c d, e ≠ .Compare a b c d) (h3 : ∀ x p, e ≠ .UnaryOp .Not x p) : SndE X Φ e c := by
  refine .mk' (PE.weak h fun σ H Q q => ?_) h1 h2 h3
  obtain ⟨w, ρ, M, d', M', rfl, R, E, e1, k⟩ := q
  rw [he] at e1
  cases e1
  exact k w v (Ext.refl w) R (hp w)
theorem tru_bl (b : Bool) (M : Store) : tru ((D.bl b).look M) = some b := rfl
/-- behind a call -/
theorem callR_sp {f : Str} {k : Nat} {ds : List D} {M M' : Store} {d : D} {w : Wd} {vs : List V} {Q : VK} {m : Nat} (R : RS X.K w M) (p : Rps X.K w vs ds) (e : callR Φ f k ds M = .ok d M') (hm : vs.length = m)
    (kk : ∀ w' v, Ext w w' → RS X.K w' M' → Rp X.K w' v d → Q v w'.H) (E : XK) : spD X.K Φ f m vs w.H Q E := by
  have e' : (if D.cls k ds && (M.take k).all (moCl k) && decide (k ≤ M.length) then callB k M (Φ f ds (M.take k)) else .no) = .ok d M' := e
  split at e'
  · rename_i hc
    simp only [Bool.and_eq_true, decide_eq_true_eq] at hc
    obtain ⟨⟨c1, c2⟩, c3⟩ := hc
    have R0 := R.sub k c2
    have p0 : Rps X.K ⟨w.F, w.ad.take k, w.H⟩ vs ds := Rps.cut (w := w) (w' := ⟨w.F, w.ad.take k, w.H⟩) (k := k) (fun _ f => f) rfl sub_at p c1
    cases q : Φ f ds (M.take k) with
    | ok d0 M0 =>
      rw [q] at e'
      have e2 : (if d0.cl k && (M0.take k).all (moCl k) then Res.ok d0 (M0.take k ++ M.drop k) else if M.length = k then .ok d0 M0 else .no) = .ok d M' := e'
      refine ⟨⟨w.F, w.ad.take k, w.H⟩, M.take k, ds, d0, M0, rfl, R0, p0, q, hm, fun w0 v X0 R1 p1 => ?_⟩
      split at e2
      · rename_i hd
        cases e2
        rw [Bool.and_eq_true] at hd
        obtain ⟨w', e3, X1, R2, hb⟩ := R.back c3 X0 R1 hd.2
        rw [← e3]
        exact kk w' v X1 R2 (hb v _ p1 hd.1)
      · split at e2
        · rename_i hk
          cases e2
          have ew : (⟨w.F, w.ad.take k, w.H⟩ : Wd) = w := by
            have : w.ad.take k = w.ad := List.take_of_length_le (by rw [R.len]; omega)
            rw [this]
          rw [ew] at X0
          exact kk w0 v X0 R1 p1
        · cases e2
    | er x M0 => rw [q] at e'; cases e'
    | no => rw [q] at e'; cases e'
  · cases e'
theorem isi_read {K : PySem.W.Frag} {w : Wd} {v : V} {d : D} {t : TN} {b : Bool} (p : Rp K w v d) (e : isiD d t = some b) : ∃ u, TyX K w.H v u ∧ PySem.W.kitOne K u (.type t.id) = some b := by
  cases p with
  | non => exact ⟨_, .base .non, kit_ty (by cases t <;> cases e <;> decide +kernel)⟩
  | bl x => exact ⟨_, .base (.bl x), kit_ty (by cases t <;> cases e <;> decide +kernel)⟩
  | int x => exact ⟨_, .base (.int x), kit_ty (by cases t <;> cases e <;> decide +kernel)⟩
  | str x => exact ⟨_, .base (.str x), kit_ty (by cases t <;> cases e <;> decide +kernel)⟩
  | tup h1 h2 => exact ⟨_, .base (.tup h1), kit_ty (by cases t <;> cases e <;> decide +kernel)⟩
  | lst f h1 h2 => exact ⟨_, .base (.lst h1), kit_ty (by cases t <;> cases e <;> decide +kernel)⟩
  | emp f h1 => exact ⟨_, .base (.dK h1), kit_ty (by cases t <;> cases e <;> decide +kernel)⟩
  | _ => cases e
theorem rpr_read {K : PySem.W.Frag} {w : Wd} {M : Store} (R : RS K w M) {v : V} {d : D} {t : Str} {Q : VK} (h : Rp K w v d) (e : rprD (d.look M) = some t) (q : Q (.str t) w.H) : rRepr K [v] w.H Q := by
  have gen : (if (d.look M).sh 60 && (d.look M).py.showable && decide ((d.look M).py.shown.length ≤ sizeLine) then some (d.look M).py.shown else none) = some t → rRepr K [v] w.H Q := fun e => by
    split at e
    · rename_i c
      simp only [Bool.and_eq_true, decide_eq_true_eq] at c
      cases e
      obtain ⟨l1, l2⟩ := sh_lay 60 _ c.1.1
      exact .inl ⟨v, _, rfl, dp_look R h c.1.1, c.1.2, PyData.hasDict_of_canLay _ l1, c.2, by omega, q⟩
    · cases e
  cases h with
  | @emp a f h1 =>
    cases e
    exact .inr ⟨a, rfl, h1, q⟩
  | non => exact gen e
  | bl _ => exact gen e
  | int _ => exact gen e
  | str _ => exact gen e
  | tup _ _ => exact gen e
  | lst _ _ _ => exact gen e
  | scr _ => exact gen e
  | @ref a i h1 =>
    rcases look_ref' (M := M) (i := i) (d := (D.ref i).look M) rfl with ⟨ds, z⟩ | z <;> rw [z] at e gen <;> exact gen e
/-- a method's reading on data -/
def rMt (K : PySem.W.Frag) (m : MI) : V → List V → Hp → VK → Prop := fun x vs H Q => ∃ w M dx ds d M', w.H = H ∧ RS K w M ∧ Rp K w x dx ∧ Rps K w vs ds ∧ mth m dx ds M = .ok d M' ∧ Aft K w M' d Q
def MI.id : MI → String
  | .append => "list.append" | .extend => "list.extend" | .pop => "list.pop"
theorem mtR' (m : MI) : MtR X m.id (rMt X.K m) := by
  intro pins s σ H x xs v us Q I rx rv h
  obtain ⟨w, M, dx, ds, d, M', rfl, R, px, pv, e, k⟩ := h
  cases m with
  | append =>
    cases dx with
    | ref i =>
      cases ds with
      | nil => cases e
      | cons y ds =>
        cases ds with
        | nil =>
          obtain ⟨u, rfl, py⟩ := pv.one
          cases px with
          | @ref a _ ha =>
          have e : (match M[i]? with
            | some (.lst xs) => if xs.length < sizeLine then Res.ok D.non (M.set i (.lst (xs ++ [y]))) else .no
            | _ => .no) = .ok d M' := e
          split at e
          · rename_i zs q
            split at e
            · rename_i hz
              cases e
              obtain ⟨ws, e1, e2, e3⟩ := R.obj i _ a q ha
              obtain ⟨w', f1, f2, f3⟩ := R.wr q ha (vs := ws) (e3.append (.cons py .nil))
              refine mt_append pins s σ w.H _ _ v us Q I rx rv ⟨a, ws, u, rfl, rfl, e1, by rw [e3.length]; exact hz, ?_⟩
              rw [← f1]
              exact k w' _ f2 f3 .non
            · cases e
          · cases e
        | cons _ _ => cases e
    | _ => cases ds with
      | nil => cases e
      | cons y ds => cases ds <;> cases e
  | extend =>
    cases dx with
    | ref i =>
      cases ds with
      | nil => cases e
      | cons y ds =>
        cases ds with
        | nil =>
          obtain ⟨u, rfl, py⟩ := pv.one
          cases px with
          | @ref a _ ha =>
          have e : (match M[i]?, y.look M with
            | some (.lst xs), .lst ys => if xs.length + ys.length ≤ sizeLine then Res.ok D.non (M.set i (.lst (xs ++ ys))) else .no
            | _, _ => .no) = .ok d M' := e
          split at e
          · rename_i zs ys q q2
            split at e
            · rename_i hz
              cases e
              obtain ⟨ws, e1, e2, e3⟩ := R.obj i _ a q ha
              obtain ⟨b, us', rfl, g1, g2⟩ := R.lookL py q2
              obtain ⟨w', f1, f2, f3⟩ := R.wr q ha (vs := ws) (e3.append g2)
              refine mt_extend pins s σ w.H _ _ v us Q I rx rv ⟨a, b, ws, us', rfl, rfl, e1, g1, by rw [e3.length, g2.length]; exact hz, ?_⟩
              rw [← f1]
              exact k w' _ f2 f3 .non
            · cases e
          · cases e
        | cons _ _ => cases e
    | _ => cases ds with
      | nil => cases e
      | cons y ds => cases ds <;> cases e
  | pop =>
    cases dx with
    | ref i =>
      cases ds with
      | cons y ds => cases e
      | nil =>
        cases pv
        cases px with
        | @ref a _ ha =>
        have e : (match M[i]? with
          | some (.lst xs) => (match xs[xs.length - 1]? with
            | some d => Res.ok d (M.set i (.lst xs.dropLast))
            | none => .no)
          | _ => .no) = .ok d M' := e
        split at e
        · rename_i zs q
          split at e
          · rename_i d0 q2
            cases e
            obtain ⟨ws, e1, e2, e3⟩ := R.obj i _ a q ha
            obtain ⟨w', f1, f2, f3⟩ := R.wr q ha (vs := ws) e3.dropLast
            obtain ⟨z, z1, z2⟩ := e3.get q2
            refine mt_pop pins s σ w.H _ _ v us Q I rx rv ⟨a, ws, z, rfl, rfl, e1, by rw [e3.length]; exact z1, ?_⟩
            rw [← f1]
            exact k w' _ f2 f3 (z2.mono f2)
          · cases e
        · cases e
    | _ => cases ds <;> cases e
theorem pa_ne {x : Expr} {c : C} {cs : Cs} {σ : L2.St} (w : Wd) : True := trivial
theorem slot_mt (m : MI) : Slot "list" m.nm m.id := by
  cases m
  · exact PySem.F.slot_list_append
  · exact PySem.F.slot_list_extend
  · exact PySem.F.slot_list_pop
theorem type_mt (m : MI) : typeOf (.builtin m.id) = pure (.type "method_descriptor") := by
  cases m
  · exact PySem.F.type_list_append
  · exact PySem.F.type_list_extend
  · exact PySem.F.type_list_pop
theorem kw_all : ∀ {kws : List Keyword} {cs : Cs} {env : Env} {pos : Pos}, chkKs G cs cf sc kws = true → (backToKw pos (keywordEach kws env)).all (·.1.isSome) = true ∧ (backToKw pos (keywordEach kws env)).filterMap (·.1) = kwN kws ∧ (backToKw pos (keywordEach kws env)).any (·.1.isNone) = false
  | [], _, _, _, _ => ⟨rfl, rfl, rfl⟩
  | ⟨none, x, p⟩ :: r, .nil, _, _, h => by simp [chkKs] at h
  | ⟨some y, x, p⟩ :: r, .nil, _, _, h => by simp [chkKs] at h
  | ⟨none, x, p⟩ :: r, .cons c cs, _, _, h => by simp [chkKs] at h
  | ⟨some y, x, p⟩ :: r, .cons c cs, env, pos, h => by
    simp only [chkKs, Bool.and_eq_true] at h
    obtain ⟨a1, a2, a3⟩ := kw_all (env := env) (pos := pos) h.2
    refine ⟨?_, ?_, ?_⟩
    · show (true && (backToKw pos (keywordEach r env)).all (·.1.isSome)) = true
      rw [a1] <;> rfl
    · show y :: (backToKw pos (keywordEach r env)).filterMap (·.1) = y :: kwN r
      rw [a2]
    · show (false || (backToKw pos (keywordEach r env)).any (·.1.isNone)) = false
      rw [a3] <;> rfl
end
theorem Rps.permR {K : PySem.W.Frag} {w : Wd} {vs zs : List V} {ds es : List D} (a : Rps K w vs ds) (b : Rps K w zs es) : ∀ p : List Nat, Rps K w (perm p vs zs) (p.filterMap fun i => (ds ++ es)[i]?)
  | [] => .nil
  | i :: p => by
    have ih := Rps.permR a b p
    unfold perm at ih ⊢
    have ab := a.append b
    cases q : (ds ++ es)[i]? with
    | none =>
      have q' : (vs ++ zs)[i]? = none := by rw [List.getElem?_eq_none_iff] at q ⊢; rw [ab.length]; exact q
      rw [List.filterMap_cons, List.filterMap_cons, q, q']
      exact ih
    | some d =>
      obtain ⟨v, q', r⟩ := ab.get q
      rw [List.filterMap_cons, List.filterMap_cons, q, q']
      exact .cons r ih
end CZ

set_option Elab.async false
set_option linter.all false
set_option maxRecDepth 100000
set_option maxHeartbeats 16000000
/-! CZ8: expressions do what the tree says: the theorem. -/
namespace CZ
open PySem PySem.Spec PyProof.Rows L2 RZ

theorem fns_of {X : Cx} {G : Gam} {sc : Scope} {cf : Str → Bool} {Φ : Orac} {n m : Nat} {f : Str} (g : Gd X G sc cf Φ n) (h : (G.fns.any fun p => decide (p.1 = f) && decide (p.2.length = m)) = true) :
    ∃ ps a fd, ps.length = m ∧ X.mg f = some (.ref a) ∧ PySem.W.keepIn X.K (.ref a) = true ∧ Binds X.K fd ps [] ∧
    (∀ m ks p, (f, m, ks, p) ∈ G.kws → KBn X.K fd ps m ks (fun us ws => perm p us ws) (fun vs zs => perm p vs zs)) ∧ FnG X.prog X.w X.K X.mg X.base (L2.CX X.prog X.w) n a fd ps (spD X.K Φ f ps.length) := by
  obtain ⟨⟨f', ps⟩, hm, hq⟩ := List.any_eq_true.mp h
  simp only [Bool.and_eq_true, decide_eq_true_eq] at hq
  obtain ⟨rfl, hl⟩ := hq
  obtain ⟨a, fd, r⟩ := g.fns _ ps hm
  exact ⟨ps, a, fd, hl, r⟩
theorem itl_read {K : PySem.W.Frag} {w' : Wd} {a : Addr} {xs : List D} {vs : List V} (f : w'.F a) (h1 : w'.H a = some (.lst vs)) (h2 : Rps K w' vs xs) :
  (∀ (i : Nat) w1, Ext w' w1 → i < xs.length → (Itl K a).go i w1.H) ∧ (∀ (i : Nat) w1, Ext w' w1 → xs.length ≤ i → (Itl K a).stop i w1.H) ∧
    ∀ (i : Nat) w1 x H', Ext w' w1 → (∃ M1, RS K w1 M1) → (Itl K a).yld i w1.H x H' → i < xs.length → ∃ w2 d, w2.H = H' ∧ Ext w1 w2 ∧ (∀ M1, RS K w1 M1 → RS K w2 M1) ∧ xs[i]? = some d ∧ Rp K w2 x d := by
  have st : ∀ w1, Ext w' w1 → w1.H a = some (.lst vs) := fun w1 x => x.fr a _ h1 (.inr f)
  refine ⟨fun i w1 x hi => ?_, fun i w1 x hi => ⟨vs, SqL.at_ (st w1 x), by rw [h2.length]; exact hi⟩, fun i w1 x H' X1 _ y hi => ?_⟩
  · have hv : i < vs.length := by rw [h2.length]; exact hi
    exact ⟨vs, vs[i], SqL.at_ (st w1 x), List.getElem?_eq_getElem hv⟩
  · obtain ⟨rfl, y⟩ := y
    obtain ⟨v, q1, q2⟩ := h2.get (List.getElem?_eq_getElem hi)
    have ex : x = v := Option.some.inj ((y vs (SqL.at_ (st w1 X1))).symm.trans q1)
    subst ex
    exact ⟨w1, xs[i], rfl, Ext.refl w1, fun _ r => r, List.getElem?_eq_getElem hi, q2.mono X1⟩
theorem itt_read {K : PySem.W.Frag} {w' : Wd} {a : Addr} {xs : List D} {vs : List V} (h1 : w'.H a = some (.tup vs)) (h2 : Rps K w' vs xs) :
  (∀ (i : Nat) w1, Ext w' w1 → i < xs.length → (Itt K a).go i w1.H) ∧ (∀ (i : Nat) w1, Ext w' w1 → xs.length ≤ i → (Itt K a).stop i w1.H) ∧
    ∀ (i : Nat) w1 x H', Ext w' w1 → (∃ M1, RS K w1 M1) → (Itt K a).yld i w1.H x H' → i < xs.length → ∃ w2 d, w2.H = H' ∧ Ext w1 w2 ∧ (∀ M1, RS K w1 M1 → RS K w2 M1) ∧ xs[i]? = some d ∧ Rp K w2 x d := by
  have st : ∀ w1, Ext w' w1 → w1.H a = some (.tup vs) := fun w1 x => x.hard a _ h1 rfl
  refine ⟨fun i w1 x hi => ?_, fun i w1 x hi => ⟨vs, SqT.at_ (st w1 x), by rw [h2.length]; exact hi⟩, fun i w1 x H' X1 _ y hi => ?_⟩
  · have hv : i < vs.length := by rw [h2.length]; exact hi
    exact ⟨vs, vs[i], SqT.at_ (st w1 x), List.getElem?_eq_getElem hv⟩
  · obtain ⟨rfl, y⟩ := y
    obtain ⟨v, q1, q2⟩ := h2.get (List.getElem?_eq_getElem hi)
    have ex : x = v := Option.some.inj ((y vs (SqT.at_ (st w1 X1))).symm.trans q1)
    subst ex
    exact ⟨w1, xs[i], rfl, Ext.refl w1, fun _ r => r, List.getElem?_eq_getElem hi, q2.mono X1⟩
theorem itr_read {K : PySem.W.Frag} {w' : Wd} {lo hi : Int} :
  (∀ (i : Nat) w1, Ext w' w1 → i < (rngL lo hi).length → (Itr lo (hi - lo).toNat).go i w1.H) ∧ (∀ (i : Nat) w1, Ext w' w1 → (rngL lo hi).length ≤ i → (Itr lo (hi - lo).toNat).stop i w1.H) ∧
    ∀ (i : Nat) w1 x H', Ext w' w1 → (∃ M1, RS K w1 M1) → (Itr lo (hi - lo).toNat).yld i w1.H x H' → i < (rngL lo hi).length → ∃ w2 d, w2.H = H' ∧ Ext w1 w2 ∧ (∀ M1, RS K w1 M1 → RS K w2 M1) ∧ (rngL lo hi)[i]? = some d ∧ Rp K w2 x d := by
  have hl : (rngL lo hi).length = (hi - lo).toNat := by unfold rngL; rw [List.length_map, List.length_range]
  refine ⟨fun i w1 x h => by rw [hl] at h; exact h, fun i w1 x h => by rw [hl] at h; exact h, fun i w1 x H' X1 _ y h => ?_⟩
  obtain ⟨rfl, rfl⟩ := y
  refine ⟨w1, .int (lo + i), rfl, Ext.refl w1, fun _ r => r, ?_, .int _⟩
  unfold rngL
  rw [List.getElem?_map, List.getElem?_range (by rw [hl] at h; exact h)]
  rfl
theorem rev_at {α : Type} {xs : List α} {i : Nat} (h : i < xs.length) : xs.reverse[i]? = xs[xs.length - 1 - i]? := List.getElem?_reverse h
theorem itv_read {K : PySem.W.Frag} {w' : Wd} {a : Addr} {xs : List D} {vs : List V} (f : w'.F a) (h1 : w'.H a = some (.lst vs)) (h2 : Rps K w' vs xs) :
  (∀ (i : Nat) w1, Ext w' w1 → i < xs.reverse.length → (Itv K a vs.length).go i w1.H) ∧ (∀ (i : Nat) w1, Ext w' w1 → xs.reverse.length ≤ i → (Itv K a vs.length).stop i w1.H) ∧
    ∀ (i : Nat) w1 x H', Ext w' w1 → (∃ M1, RS K w1 M1) → (Itv K a vs.length).yld i w1.H x H' → i < xs.reverse.length → ∃ w2 d, w2.H = H' ∧ Ext w1 w2 ∧ (∀ M1, RS K w1 M1 → RS K w2 M1) ∧ xs.reverse[i]? = some d ∧ Rp K w2 x d := by
  have st : ∀ w1, Ext w' w1 → w1.H a = some (.lst vs) := fun w1 x => x.fr a _ h1 (.inr f)
  have hl := h2.length
  rw [List.length_reverse]
  refine ⟨fun i w1 x hi => ⟨by omega, vs, vs[vs.length - 1 - i], SqL.at_ (st w1 x), List.getElem?_eq_getElem (by omega)⟩, fun i w1 x hi => (by rw [hl]; exact hi : vs.length ≤ i), fun i w1 x H' X1 _ y hi => ?_⟩
  obtain ⟨rfl, y⟩ := y
  obtain ⟨v, q1, q2⟩ := h2.get (List.getElem?_eq_getElem (show xs.length - 1 - i < xs.length by omega))
  have q1' : vs[vs.length - 1 - i]? = some v := by rw [hl]; exact q1
  have ex : x = v := Option.some.inj ((y vs (SqL.at_ (st w1 X1))).symm.trans q1')
  subst ex
  exact ⟨w1, xs[xs.length - 1 - i], rfl, Ext.refl w1, fun _ r => r, by rw [rev_at hi]; exact List.getElem?_eq_getElem (by omega), q2.mono X1⟩
theorem itvt_read {K : PySem.W.Frag} {w' : Wd} {a : Addr} {xs : List D} {vs : List V} (h1 : w'.H a = some (.tup vs)) (h2 : Rps K w' vs xs) :
  (∀ (i : Nat) w1, Ext w' w1 → i < xs.reverse.length → (RT.ItvT K a vs.length).go i w1.H) ∧ (∀ (i : Nat) w1, Ext w' w1 → xs.reverse.length ≤ i → (RT.ItvT K a vs.length).stop i w1.H) ∧
    ∀ (i : Nat) w1 x H', Ext w' w1 → (∃ M1, RS K w1 M1) → (RT.ItvT K a vs.length).yld i w1.H x H' → i < xs.reverse.length → ∃ w2 d, w2.H = H' ∧ Ext w1 w2 ∧ (∀ M1, RS K w1 M1 → RS K w2 M1) ∧ xs.reverse[i]? = some d ∧ Rp K w2 x d := by
  have st : ∀ w1, Ext w' w1 → w1.H a = some (.tup vs) := fun w1 x => x.hard a _ h1 rfl
  have hl := h2.length
  rw [List.length_reverse]
  refine ⟨fun i w1 x hi => ⟨by omega, vs, vs[vs.length - 1 - i], SqT.at_ (st w1 x), List.getElem?_eq_getElem (by omega)⟩, fun i w1 x hi => (by rw [hl]; exact hi : vs.length ≤ i), fun i w1 x H' X1 _ y hi => ?_⟩
  obtain ⟨rfl, y⟩ := y
  obtain ⟨v, q1, q2⟩ := h2.get (List.getElem?_eq_getElem (show xs.length - 1 - i < xs.length by omega))
  have q1' : vs[vs.length - 1 - i]? = some v := by rw [hl]; exact q1
  have ex : x = v := Option.some.inj ((y vs (SqT.at_ (st w1 X1))).symm.trans q1')
  subst ex
  exact ⟨w1, xs[xs.length - 1 - i], rfl, Ext.refl w1, fun _ r => r, by rw [rev_at hi]; exact List.getElem?_eq_getElem (by omega), q2.mono X1⟩
theorem itrd_read {K : PySem.W.Frag} {w' : Wd} {lo hi : Int} :
  (∀ (i : Nat) w1, Ext w' w1 → i < (rngDn lo hi).length → (Itc lo (-1) (lo - hi).toNat).go i w1.H) ∧ (∀ (i : Nat) w1, Ext w' w1 → (rngDn lo hi).length ≤ i → (Itc lo (-1) (lo - hi).toNat).stop i w1.H) ∧
    ∀ (i : Nat) w1 x H', Ext w' w1 → (∃ M1, RS K w1 M1) → (Itc lo (-1) (lo - hi).toNat).yld i w1.H x H' → i < (rngDn lo hi).length → ∃ w2 d, w2.H = H' ∧ Ext w1 w2 ∧ (∀ M1, RS K w1 M1 → RS K w2 M1) ∧ (rngDn lo hi)[i]? = some d ∧ Rp K w2 x d := by
  have hl : (rngDn lo hi).length = (lo - hi).toNat := by unfold rngDn; rw [List.length_map, List.length_range]
  refine ⟨fun i w1 x h => by rw [hl] at h; exact h, fun i w1 x h => by rw [hl] at h; exact h, fun i w1 x H' X1 _ y h => ?_⟩
  obtain ⟨rfl, rfl⟩ := y
  refine ⟨w1, .int (lo + (i : Int) * (-1)), rfl, Ext.refl w1, fun _ r => r, ?_, .int _⟩
  unfold rngDn
  rw [List.getElem?_map, List.getElem?_range (by rw [hl] at h; exact h)]
  rfl
theorem zip_at {α β γ : Type} (f : α → β → γ) (xs : List α) (ys : List β) (i : Nat) (x : α) (y : β) (h1 : xs[i]? = some x) (h2 : ys[i]? = some y) : (List.zipWith f xs ys)[i]? = some (f x y) := by
  rw [List.getElem?_zipWith, h1, h2]
theorem itz_read {K : PySem.W.Frag} {w' : Wd} {a b : Addr} {xs ys : List D} {vs us : List V} {J : L2.It} (lt : Bool)
    (ha : ∀ w1, Ext w' w1 → (if lt then SqL K w1.H a vs else SqT K w1.H a vs)) (hb : ∀ w1, Ext w' w1 → (if lt then SqL K w1.H b us else SqT K w1.H b us)) (h1 : Rps K w' vs xs) (h2 : Rps K w' us ys) (hJ : J = if lt then Itz K a b else ItzT K a b) :
  (∀ (i : Nat) w1, Ext w' w1 → i < (List.zipWith (fun u v => D.tup [u, v]) xs ys).length → J.go i w1.H) ∧ (∀ (i : Nat) w1, Ext w' w1 → (List.zipWith (fun u v => D.tup [u, v]) xs ys).length ≤ i → J.stop i w1.H) ∧
    ∀ (i : Nat) w1 x H', Ext w' w1 → (∃ M1, RS K w1 M1) → J.yld i w1.H x H' → i < (List.zipWith (fun u v => D.tup [u, v]) xs ys).length → ∃ w2 d, w2.H = H' ∧ Ext w1 w2 ∧ (∀ M1, RS K w1 M1 → RS K w2 M1) ∧ (List.zipWith (fun u v => D.tup [u, v]) xs ys)[i]? = some d ∧ Rp K w2 x d := by
  have hl : (List.zipWith (fun u v => D.tup [u, v]) xs ys).length = min vs.length us.length := by rw [List.length_zipWith, h1.length, h2.length]
  have yl : ∀ (i : Nat) w1 x H', Ext w' w1 → (∃ M1, RS K w1 M1) → (∃ T x0 y0, x = .ref T ∧ w1.H T = none ∧ H' = upd w1.H T (.tup [x0, y0]) ∧ vs[i]? = some x0 ∧ us[i]? = some y0) → i < (List.zipWith (fun u v => D.tup [u, v]) xs ys).length →
      ∃ w2 d, w2.H = H' ∧ Ext w1 w2 ∧ (∀ M1, RS K w1 M1 → RS K w2 M1) ∧ (List.zipWith (fun u v => D.tup [u, v]) xs ys)[i]? = some d ∧ Rp K w2 x d := fun i w1 x H' X1 hR hy hi => by
    obtain ⟨T, x0, y0, rfl, hT, rfl, e1, e2⟩ := hy
    obtain ⟨M1, R1⟩ := hR
    have hx : i < xs.length := by rw [List.length_zipWith] at hi; omega
    have hy : i < ys.length := by rw [List.length_zipWith] at hi; omega
    obtain ⟨v, q1, q2⟩ := h1.get (List.getElem?_eq_getElem hx)
    obtain ⟨u, r1, r2⟩ := h2.get (List.getElem?_eq_getElem hy)
    have z1 : x0 = v := Option.some.inj (e1.symm.trans q1)
    have z2 : y0 = u := Option.some.inj (e2.symm.trans r1)
    subst z1 z2
    obtain ⟨X2, _⟩ := R1.fresh (o := .tup [x0, y0]) hT
    exact ⟨⟨w1.F, w1.ad, upd w1.H T (.tup [x0, y0])⟩, _, rfl, X2, fun M2 R2 => (R2.fresh hT).2, zip_at _ _ _ _ _ _ (List.getElem?_eq_getElem hx) (List.getElem?_eq_getElem hy), .tup upd_same (.cons ((q2.mono X1).mono X2) (.cons ((r2.mono X1).mono X2) .nil))⟩
  cases lt with
  | true =>
    rw [if_pos rfl] at hJ
    subst hJ
    have ha' : ∀ w1, Ext w' w1 → SqL K w1.H a vs := fun w1 x => by have := ha w1 x; rwa [if_pos rfl] at this
    have hb' : ∀ w1, Ext w' w1 → SqL K w1.H b us := fun w1 x => by have := hb w1 x; rwa [if_pos rfl] at this
    refine ⟨fun i w1 x hi => ?_, fun i w1 x hi => ⟨vs, us, ha' w1 x, hb' w1 x, by omega⟩, fun i w1 x H' X1 hR y hi => ?_⟩
    · have hv : i < vs.length := by omega
      have hu : i < us.length := by omega
      exact ⟨vs, us, vs[i], us[i], ha' w1 x, hb' w1 x, List.getElem?_eq_getElem hv, List.getElem?_eq_getElem hu⟩
    · obtain ⟨T, x0, y0, rfl, hT, rfl, f1, f2⟩ := y
      exact yl i w1 _ _ X1 hR ⟨T, x0, y0, rfl, hT, rfl, f1 vs (ha' w1 X1), f2 us (hb' w1 X1)⟩ hi
  | false =>
    rw [if_neg Bool.false_ne_true] at hJ
    subst hJ
    have ha' : ∀ w1, Ext w' w1 → SqT K w1.H a vs := fun w1 x => by have := ha w1 x; rwa [if_neg Bool.false_ne_true] at this
    have hb' : ∀ w1, Ext w' w1 → SqT K w1.H b us := fun w1 x => by have := hb w1 x; rwa [if_neg Bool.false_ne_true] at this
    refine ⟨fun i w1 x hi => ?_, fun i w1 x hi => ⟨vs, us, ha' w1 x, hb' w1 x, by omega⟩, fun i w1 x H' X1 hR y hi => ?_⟩
    · have hv : i < vs.length := by omega
      have hu : i < us.length := by omega
      exact ⟨vs, us, vs[i], us[i], ha' w1 x, hb' w1 x, List.getElem?_eq_getElem hv, List.getElem?_eq_getElem hu⟩
    · obtain ⟨T, x0, y0, rfl, hT, rfl, f1, f2⟩ := y
      exact yl i w1 _ _ X1 hR ⟨T, x0, y0, rfl, hT, rfl, f1 vs (ha' w1 X1), f2 us (hb' w1 X1)⟩ hi
theorem enmL_at : ∀ (xs : List D) (k i : Nat) (x : D), xs[i]? = some x → (enmL k xs)[i]? = some (.tup [.int ((k + i : Nat) : Int), x])
  | [], _, _, _, h => by simp at h
  | y :: r, k, 0, x, h => by
    have e : y = x := Option.some.inj h
    subst e
    rfl
  | y :: r, k, i + 1, x, h => by
    show (enmL (k + 1) r)[i]? = _
    rw [enmL_at r (k + 1) i x h, show k + 1 + i = k + (i + 1) by omega]
theorem enmL_len : ∀ (xs : List D) (k : Nat), (enmL k xs).length = xs.length
  | [], _ => rfl
  | y :: r, k => congrArg (· + 1) (enmL_len r (k + 1))
theorem ite_read {K : PySem.W.Frag} {w' : Wd} {a : Addr} {xs : List D} {vs : List V} (f : w'.F a) (h1 : w'.H a = some (.lst vs)) (h2 : Rps K w' vs xs) :
  (∀ (i : Nat) w1, Ext w' w1 → i < (enmL 0 xs).length → (Ite K a).go i w1.H) ∧ (∀ (i : Nat) w1, Ext w' w1 → (enmL 0 xs).length ≤ i → (Ite K a).stop i w1.H) ∧
    ∀ (i : Nat) w1 x H', Ext w' w1 → (∃ M1, RS K w1 M1) → (Ite K a).yld i w1.H x H' → i < (enmL 0 xs).length → ∃ w2 d, w2.H = H' ∧ Ext w1 w2 ∧ (∀ M1, RS K w1 M1 → RS K w2 M1) ∧ (enmL 0 xs)[i]? = some d ∧ Rp K w2 x d := by
  have st : ∀ w1, Ext w' w1 → w1.H a = some (.lst vs) := fun w1 x => x.fr a _ h1 (.inr f)
  rw [enmL_len]
  refine ⟨fun i w1 x hi => ?_, fun i w1 x hi => ⟨vs, SqL.at_ (st w1 x), by rw [h2.length]; exact hi⟩, fun i w1 x H' X1 hR y hi => ?_⟩
  · have hv : i < vs.length := by rw [h2.length]; exact hi
    exact ⟨vs, vs[i], SqL.at_ (st w1 x), List.getElem?_eq_getElem hv⟩
  · obtain ⟨T, x0, rfl, hT, rfl, y⟩ := y
    obtain ⟨M1, R1⟩ := hR
    obtain ⟨v, q1, q2⟩ := h2.get (List.getElem?_eq_getElem hi)
    have ex : x0 = v := Option.some.inj ((y vs (SqL.at_ (st w1 X1))).symm.trans q1)
    subst ex
    obtain ⟨X2, _⟩ := R1.fresh (o := .tup [.int (i : Nat), x0]) hT
    refine ⟨⟨w1.F, w1.ad, upd w1.H T (.tup [.int (i : Nat), x0])⟩, _, rfl, X2, fun M2 R2 => (R2.fresh hT).2, enmL_at xs 0 i _ (List.getElem?_eq_getElem hi), .tup upd_same (.cons ?_ (.cons ((q2.mono X1).mono X2) .nil))⟩
    rw [Nat.zero_add]
    exact .int _
/-- without the list that is being made -/
def rm (w : Wd) (p : Addr) : Wd := ⟨w.F, w.ad, fun b => if b = p then none else w.H b⟩
theorem rm_at {w : Wd} {p b : Addr} (h : b ≠ p) : (rm w p).H b = w.H b := if_neg h
theorem rm_no {w : Wd} {p : Addr} : (rm w p).H p = none := if_pos rfl
theorem rm_some {w : Wd} {p a : Addr} {o : HO} (h : (rm w p).H a = some o) : a ≠ p ∧ w.H a = some o := by
  by_cases e : a = p
  · rw [e, rm_no] at h; cases h
  · exact ⟨e, by rw [← rm_at e]; exact h⟩
mutual
theorem Rp.rmd {K : PySem.W.Frag} {w : Wd} {p : Addr} {vs : List V} (hp : w.H p = some (.lst vs)) (hF : ¬ w.F p) : ∀ {v : V} {d : D}, Rp K w v d → Rp K (rm w p) v d
  | _, _, .non => .non
  | _, _, .bl b => .bl b
  | _, _, .int i => .int i
  | _, _, .str i => .str i
  | _, _, .tup h r => .tup (by rw [rm_at (fun e => by rw [e, hp] at h; cases h)]; exact h) (Rps.rmd hp hF r)
  | _, _, .lst f h r => .lst f ((rm_at (fun e => hF (by rw [← e]; exact f))).trans h) (Rps.rmd hp hF r)
  | _, _, .ref h => .ref h
  | _, _, .emp f h => .emp f ((rm_at (fun e => hF (by rw [← e]; exact f))).trans h)
  | _, _, .scr h => .scr (by
    have up : ∀ a o, locked w.H a = some o → locked (rm w p).H a = some o := fun a o z => by
      have ne : a ≠ p := fun e => by
        unfold locked at z
        rw [e, hp] at z
        cases z
      unfold locked at z ⊢
      rw [rm_at ne]
      exact z
    rcases h with (h | ⟨o, h⟩) | h
    · exact .inl (.inl (up _ _ h))
    · exact .inl (.inr ⟨o, up _ _ h⟩)
    · exact .inr h)
theorem Rps.rmd {K : PySem.W.Frag} {w : Wd} {p : Addr} {vs : List V} (hp : w.H p = some (.lst vs)) (hF : ¬ w.F p) : ∀ {us : List V} {ds : List D}, Rps K w us ds → Rps K (rm w p) us ds
  | _, _, .nil => .nil
  | _, _, .cons a b => .cons (Rp.rmd hp hF a) (Rps.rmd hp hF b)
end
theorem RS.rmd {K : PySem.W.Frag} {w : Wd} {M : Store} {p : Addr} {vs : List V} (R : RS K w M) (hp : w.H p = some (.lst vs)) (hF : ¬ w.F p) (ha : p ∉ w.ad) : RS K (rm w p) M := by
  refine ⟨R.len, R.nd, fun a h => ?_, fun a h => ?_, fun i o a h1 h2 => ?_⟩
  · have ne : a ≠ p := fun e => ha (by rw [← e]; exact h)
    rw [rm_at ne]; exact R.ne a h
  · have ne : a ≠ p := fun e => hF (by rw [← e]; exact h)
    rw [rm_at ne]; exact R.fne a h
  · have q := R.obj i o a h1 h2
    cases o with
    | lst ds =>
      obtain ⟨us, e1, e2, e3⟩ := q
      refine ⟨us, ?_, e2, e3.rmd hp hF⟩
      have ne : a ≠ p := fun e => ha (by rw [← e]; exact List.mem_of_getElem? h2)
      rw [rm_at ne]; exact e1
    | dct _ => exact q.elim
    | dead => trivial
theorem Ext.rmd {w w' : Wd} {p : Addr} {vs : List V} (x : Ext w w') (hp : w.H p = some (.lst vs)) (hF : ¬ w.F p) (ha : p ∉ w.ad) : Ext (rm w p) (rm w' p) ∧ w'.H p = some (.lst vs) ∧ ¬ w'.F p ∧ p ∉ w'.ad := by
  refine ⟨⟨fun a o h m => ?_, x.frz, fun a o h c => ?_, fun a h => ?_, ?_, fun a f => ?_⟩, x.fr p _ hp (.inl ha), fun f => ?_, fun m => ?_⟩
  · obtain ⟨ne, h⟩ := rm_some h
    rw [rm_at ne]; exact x.hard a o h m
  · obtain ⟨ne, h⟩ := rm_some h
    rw [rm_at ne]; exact x.fr a o h c
  · by_cases e : a = p
    · rw [e]; exact rm_no
    · rw [rm_at e] at h ⊢; exact x.liv a h
  · obtain ⟨e, he, hn⟩ := x.pre
    refine ⟨e, he, fun a m => ?_⟩
    by_cases ep : a = p
    · rw [ep]; exact rm_no
    · rw [rm_at ep]; exact hn a m
  · rcases x.nf a f with f | f | f
    · exact .inl f
    · by_cases ep : a = p
      · exact .inr (.inl (by rw [ep]; exact rm_no))
      · exact .inr (.inl (by rw [rm_at ep]; exact f))
    · exact .inr (.inr f)
  · rcases x.nf p f with f | f | f
    · exact hF f
    · rw [hp] at f; cases f
    · exact ha f
  · obtain ⟨e, he, hn⟩ := x.pre
    rw [he] at m
    rcases List.mem_append.mp m with m | m
    · exact ha m
    · rw [hn p m] at hp; cases hp
/-- slots forgotten -/
def wipeE (ρ : Env') : List Nat → Env'
  | [] => ρ
  | v :: vs => (wipeE ρ vs).set v none
theorem wipeE_len (ρ : Env') : ∀ vs : List Nat, (wipeE ρ vs).length = ρ.length
  | [] => rfl
  | v :: vs => by unfold wipeE; rw [List.length_set, wipeE_len ρ vs]
theorem wipeE_out {ρ : Env'} {i : Nat} : ∀ {vs : List Nat}, i ∉ vs → (wipeE ρ vs)[i]? = ρ[i]?
  | [], _ => rfl
  | v :: vs, h => by
    unfold wipeE
    rw [List.getElem?_set_ne (fun e => h (by rw [e]; exact List.mem_cons_self ..)), wipeE_out fun m => h (List.mem_cons_of_mem _ m)]
theorem wipeE_in {ρ : Env'} {i : Nat} {d : D} : ∀ {vs : List Nat}, i ∈ vs → (wipeE ρ vs)[i]? ≠ some (some d)
  | [], h => by cases h
  | v :: vs, h => by
    unfold wipeE
    by_cases e : v = i
    · subst e
      by_cases hl : v < (wipeE ρ vs).length
      · rw [List.getElem?_set_self hl]; simp
      · rw [List.getElem?_eq_none (by simpa using hl)]; simp
    · rw [List.getElem?_set_ne e]
      rcases List.mem_cons.mp h with m | m
      · exact absurd m.symm e
      · exact wipeE_in m
theorem RE.wipe {K : PySem.W.Frag} {w : Wd} {σ : L2.St} {ρ : Env'} (r : RE K w σ ρ) (vs : List Nat) : RE K w (L2.wipe σ vs) (wipeE ρ vs) := by
  refine ⟨by rw [wipe_length, wipeE_len]; exact r.len, fun i d h => ?_⟩
  by_cases m : i ∈ vs
  · exact absurd h (wipeE_in m)
  · rw [wipeE_out m] at h
    rw [wipe_out m]
    exact r.val i d h
theorem foldl_set_at : ∀ (l : List Nat) (xs : List D) (ρ ρ' : Env') (j : Nat), xs.length = l.length → ρ.length = ρ'.length → (j ∈ l ∨ ρ[j]? = ρ'[j]?) → ((l.zip xs).foldl (fun r p => r.set p.1 (some p.2)) ρ)[j]? = ((l.zip xs).foldl (fun r p => r.set p.1 (some p.2)) ρ')[j]?
  | [], xs, ρ, ρ', j, _, _, h => by
    rcases h with h | h
    · cases h
    · exact h
  | i :: l, [], ρ, ρ', j, hl, _, h => by cases hl
  | i :: l, x :: xs, ρ, ρ', j, hl, hr, h => by
    refine foldl_set_at l xs _ _ j (Nat.succ.inj hl) (by rw [List.length_set, List.length_set]; exact hr) ?_
    by_cases e : i = j
    · subst e
      refine .inr ?_
      by_cases q : i < ρ.length
      · rw [List.getElem?_set_self q, List.getElem?_set_self (by rw [← hr]; exact q)]
      · rw [List.getElem?_eq_none (by simpa using q), List.getElem?_eq_none (by rw [List.length_set, ← hr]; omega)]
    · rcases h with h | h
      · rcases List.mem_cons.mp h with m | m
        · exact absurd m.symm e
        · exact .inl m
      · refine .inr ?_
        rw [List.getElem?_set_ne e, List.getElem?_set_ne e]; exact h
theorem setT_wipe {t : Tg} {d : D} {ρ ρ' : Env'} (h : setT t d ρ = some ρ') : setT t d (wipeE ρ t.slots) = some ρ' := by
  cases t with
  | nm i =>
    cases h
    show some ((wipeE ρ [i]).set i (some d)) = _
    unfold wipeE wipeE
    rw [List.set_set]
  | tp l =>
    cases d with
    | tup xs =>
      have h' : (if xs.length = l.length then some ((l.zip xs).foldl (fun r p => r.set p.1 (some p.2)) ρ) else none) = some ρ' := h
      split at h'
      · rename_i hl
        cases h'
        show (if xs.length = l.length then some ((l.zip xs).foldl (fun r p => r.set p.1 (some p.2)) (wipeE ρ l)) else none) = _
        rw [if_pos hl]
        congr 1
        apply List.ext_getElem?
        intro j
        refine foldl_set_at l xs _ _ j hl (wipeE_len ρ l) ?_
        by_cases m : j ∈ l
        · exact .inl m
        · exact .inr (wipeE_out m)
      · cases h'
    | lst xs =>
      have h' : (if xs.length = l.length then some ((l.zip xs).foldl (fun r p => r.set p.1 (some p.2)) ρ) else none) = some ρ' := h
      split at h'
      · rename_i hl
        cases h'
        show (if xs.length = l.length then some ((l.zip xs).foldl (fun r p => r.set p.1 (some p.2)) (wipeE ρ l)) else none) = _
        rw [if_pos hl]
        congr 1
        apply List.ext_getElem?
        intro j
        refine foldl_set_at l xs _ _ j hl (wipeE_len ρ l) ?_
        by_cases m : j ∈ l
        · exact .inl m
        · exact .inr (wipeE_out m)
      · cases h'
    | _ => cases h
theorem wipe_eq {σ σ2 : L2.St} {vs : List Nat} (h : ∀ j, j ∉ vs → σ2[j]? = (L2.wipe σ vs)[j]?) (hl : σ2.length = (L2.wipe σ vs).length) : L2.wipe σ2 vs = L2.wipe σ vs := by
  have inn : ∀ (σ : L2.St) (vs : List Nat) (j : Nat), j ∈ vs → j < σ.length → (L2.wipe σ vs)[j]? = some none := by
    intro σ vs
    induction vs with
    | nil => intro j h; cases h
    | cons v vs ih =>
      intro j h hj
      unfold L2.wipe
      by_cases e : v = j
      · subst e
        exact List.getElem?_set_self (by rw [wipe_length]; exact hj)
      · rw [List.getElem?_set_ne e]
        rcases List.mem_cons.mp h with m | m
        · exact absurd m.symm e
        · exact ih j m hj
  rw [wipe_length] at hl
  apply List.ext_getElem?
  intro j
  by_cases m : j ∈ vs
  · by_cases q : j < σ.length
    · rw [inn σ vs j m q, inn σ2 vs j m (by rw [hl]; exact q)]
    · rw [List.getElem?_eq_none (by rw [wipe_length, hl]; omega), List.getElem?_eq_none (by rw [wipe_length]; omega)]
  · rw [wipe_out m, h j m]
/-- a comprehension's turns -/
theorem comp_read {K : PySem.W.Frag} {Φ : Orac} {celt : C} {ccond : C} {tg : Tg} {tt : L2.TT} {σ : L2.St} {ρ : Env'} {r : Bool} {xs ys : List D} {d : D} {w0 : Wd} {M0 M2 M3 : Store} {J : L2.It} {Q : VK}
    (htt : ∀ σ' H Qb, TT K Φ ccond σ' H Qb → tt σ' H Qb)
    (R0 : RS K w0 M0) (E0 : RE K w0 σ ρ) (e : compL (ev Φ celt) (fun ρ M => tstR (ev Φ ccond ρ M)) tg ρ xs [] M0 = .ok ys M2) (em : mkL r ys M2 = .ok d M3)
    (k : ∀ w' v, Ext w0 w' → RS K w' M3 → Rp K w' v d → Q v w'.H)
    (hJ : (∀ (i : Nat) w1, Ext w0 w1 → i < xs.length → J.go i w1.H) ∧ (∀ (i : Nat) w1, Ext w0 w1 → xs.length ≤ i → J.stop i w1.H) ∧
      ∀ (i : Nat) w1 x H', Ext w0 w1 → (∃ M1, RS K w1 M1) → J.yld i w1.H x H' → i < xs.length → ∃ w2 d, w2.H = H' ∧ Ext w1 w2 ∧ (∀ M1, RS K w1 M1 → RS K w2 M1) ∧ xs[i]? = some d ∧ Rp K w2 x d) :
    ∀ Dn, w0.H Dn = none → ∃ W : Nat → Nat → Hp → Prop, (∃ m, W 0 m (upd w0.H Dn (.lst []))) ∧ ∀ i m H, W i m H →
      (J.stop i H ∧ Q (.ref Dn) H) ∨ (J.go i H ∧ ∃ Nx : Hp → Prop, (∀ H', Nx H' → ∃ m', m' < m ∧ W (i + 1) m' H') ∧ ∀ x H', J.yld i H x H' → TDG K tg x (L2.wipe σ tg.slots) H' fun σ2 H2 => L2.wipe σ2 tg.slots = L2.wipe σ tg.slots ∧ tt σ2 H2 fun b H3 =>
        if b = true then TD K Φ celt σ2 H3 fun y H4 => ∃ acc, H4 Dn = some (.lst acc) ∧ acc.length < sizeLine ∧ Nx (upd H4 Dn (.lst (acc ++ [y]))) else Nx H3) := by
  intro Dn hDn
  refine ⟨fun i m H => m = xs.length - i ∧ i ≤ xs.length ∧ ∃ u M acc vacc, Ext w0 u ∧ RS K u M ∧ u.H Dn = none ∧ H = upd u.H Dn (.lst vacc) ∧ Rps K u vacc acc ∧
    compL (ev Φ celt) (fun ρ M => tstR (ev Φ ccond ρ M)) tg ρ (xs.drop i) acc M = .ok ys M2, ⟨xs.length, by simp, Nat.zero_le _, w0, M0, [], [], Ext.refl w0, R0, hDn, rfl, .nil, e⟩, ?_⟩
  rintro i m H ⟨rfl, hi, u, M, acc, vacc, X0, Ru, hu, rfl, pa, ec⟩
  obtain ⟨X1, Rw⟩ := Ru.fresh (o := .lst vacc) hu
  have hw : (⟨u.F, u.ad, upd u.H Dn (.lst vacc)⟩ : Wd).H Dn = some (.lst vacc) := upd_same
  have hF : ¬ (⟨u.F, u.ad, upd u.H Dn (.lst vacc)⟩ : Wd).F Dn := fun f => Ru.fne Dn f hu
  have hA : Dn ∉ (⟨u.F, u.ad, upd u.H Dn (.lst vacc)⟩ : Wd).ad := fun f => Ru.ne Dn f hu
  generalize hwd : (⟨u.F, u.ad, upd u.H Dn (.lst vacc)⟩ : Wd) = w at X1 Rw hw hF hA
  have hH : upd u.H Dn (.lst vacc) = w.H := by rw [← hwd]
  have hrm : rm w Dn = u := by
    rw [← hwd]
    obtain ⟨uF, uad, uH⟩ := u
    unfold rm
    congr 1
    funext b
    by_cases eb : b = Dn
    · rw [eb, if_pos rfl]; exact hu.symm
    · rw [if_neg eb]; exact upd_ne eb
  rw [hH]
  obtain ⟨j1, j2, j3⟩ := hJ
  by_cases hlt : i < xs.length
  · refine .inr ⟨j1 i w (X0.trans X1) hlt, fun H' => ∃ u M acc vacc, Ext w0 u ∧ RS K u M ∧ u.H Dn = none ∧ H' = upd u.H Dn (.lst vacc) ∧ Rps K u vacc acc ∧
      compL (ev Φ celt) (fun ρ M => tstR (ev Φ ccond ρ M)) tg ρ (xs.drop (i + 1)) acc M = .ok ys M2, fun H' hn => ⟨xs.length - (i + 1), by omega, rfl, hlt, hn⟩, fun x H' hy => ?_⟩
    obtain ⟨w2, dx, rfl, X2, hR2, ed, px⟩ := j3 i w x H' (X0.trans X1) ⟨M, Rw⟩ hy hlt
    have R2 := hR2 M Rw
    rw [List.drop_eq_getElem_cons hlt] at ec
    have edx : xs[i] = dx := by
      rw [List.getElem?_eq_getElem hlt] at ed
      exact Option.some.inj ed
    rw [edx] at ec
    -- from a state behind, back to the next turn's word
    have nxt : ∀ (w3 : Wd) (M3' : Store) (acc' : List D) (vs' : List V), Ext w w3 → RS K w3 M3' → Rps K w3 vs' acc' → compL (ev Φ celt) (fun ρ M => tstR (ev Φ ccond ρ M)) tg ρ (xs.drop (i + 1)) acc' M3' = .ok ys M2 →
        ∃ u M acc vacc, Ext w0 u ∧ RS K u M ∧ u.H Dn = none ∧ upd w3.H Dn (.lst vs') = upd u.H Dn (.lst vacc) ∧ Rps K u vacc acc ∧ compL (ev Φ celt) (fun ρ M => tstR (ev Φ ccond ρ M)) tg ρ (xs.drop (i + 1)) acc M = .ok ys M2 := fun w3 M3' acc' vs' X3 R3 p3 ec3 => by
      obtain ⟨Y, y1, y2, y3⟩ := X3.rmd hw hF hA
      rw [hrm] at Y
      refine ⟨rm w3 Dn, M3', acc', vs', X0.trans Y, R3.rmd y1 y2 y3, rm_no, ?_, p3.rmd y1 y2, ec3⟩
      funext b
      by_cases eb : b = Dn
      · rw [eb, upd_same, upd_same]
      · rw [upd_ne eb, upd_ne eb, rm_at eb]
    have ec' : (match setT tg dx ρ with
      | none => Res.no
      | some ρ' => (tstR (ev Φ ccond ρ' M)).bind fun b M1 => if b then (ev Φ celt ρ' M1).bind fun y M2 => if acc.length < sizeLine then compL (ev Φ celt) (fun ρ M => tstR (ev Φ ccond ρ M)) tg ρ (xs.drop (i + 1)) (acc ++ [y]) M2 else .no else compL (ev Φ celt) (fun ρ M => tstR (ev Φ ccond ρ M)) tg ρ (xs.drop (i + 1)) acc M1) = .ok ys M2 := ec
    cases es : setT tg dx ρ with
    | none => rw [es] at ec'; cases ec'
    | some ρ' =>
      rw [es] at ec'
      refine ⟨w2, wipeE ρ tg.slots, dx, ρ', rfl, ((E0.mono (X0.trans X1)).mono X2).wipe _, px, setT_wipe es, fun σ2 E2 s1 s2 => ⟨wipe_eq s1 s2, htt _ _ _ ?_⟩⟩
      obtain ⟨b, Mb, eb, ec2⟩ := Res.bind_eq_ok ec'
      refine ⟨w2, ρ', M, b, Mb, rfl, R2, E2, eb, fun w3 X3 R3 => ?_⟩
      cases b with
      | true =>
        rw [if_pos rfl] at ec2 ⊢
        obtain ⟨y, My, ey, ec3⟩ := Res.bind_eq_ok ec2
        refine ⟨w3, ρ', Mb, y, My, rfl, R3, E2.mono X3, ey, fun w4 v4 X4 R4 p4 => ?_⟩
        split at ec3
        · rename_i hsz
          obtain ⟨_, y1, _, _⟩ := ((X2.trans X3).trans X4).rmd hw hF hA
          have pa4 : Rps K w4 vacc acc := (((pa.mono X1).mono X2).mono X3).mono X4
          exact ⟨vacc, y1, by rw [pa4.length]; exact hsz, nxt w4 My _ _ ((X2.trans X3).trans X4) R4 (pa4.append (.cons p4 .nil)) ec3⟩
        · cases ec3
      | false =>
        rw [if_neg Bool.false_ne_true] at ec2 ⊢
        obtain ⟨_, y1, _, _⟩ := (X2.trans X3).rmd hw hF hA
        have z := nxt w3 Mb acc vacc (X2.trans X3) R3 (((pa.mono X1).mono X2).mono X3) ec2
        have e3 : upd w3.H Dn (.lst vacc) = w3.H := by
          funext b
          by_cases eb : b = Dn
          · rw [eb, upd_same, y1]
          · rw [upd_ne eb]
        rw [e3] at z
        exact z
  · have ei : i = xs.length := by omega
    subst ei
    refine .inl ⟨j2 _ w (X0.trans X1) (Nat.le_refl _), ?_⟩
    rw [List.drop_length] at ec
    cases ec
    rw [← hH]
    exact mk_new Ru pa em (fun w' v X' R' p' => k w' v (X0.trans X') R' p') hu
end CZ
namespace CZ
open PySem PySem.Spec PyProof.Rows L2 RZ
theorem isL_of {d : D} {M : Store} (h : isL d M = true) : ∃ i xs, d = .ref i ∧ M[i]? = some (.lst xs) := by
  unfold isL at h
  split at h
  · rename_i i
    split at h
    · rename_i xs q; exact ⟨i, xs, rfl, q⟩
    · cases h
  · cases h
theorem evs_len {G : Gam} {cf : Str → Bool} {sc : Scope} {Φ : Orac} : ∀ {cs : Cs} {es : List Expr} {ρ : Env'} {M M' : Store} {ds : List D}, chkEs G cs cf sc es = true → evs Φ cs ρ M = .ok ds M' → ds.length = es.length
  | .nil, [], _, _, _, _, _, e => by cases e; rfl
  | .nil, _ :: _, _, _, _, _, h, _ => by simp [chkEs] at h
  | .cons c r, [], _, _, _, _, h, _ => by simp [chkEs] at h
  | .cons c r, x :: xs, ρ, M, M', ds, h, e => by
    simp only [chkEs, Bool.and_eq_true] at h
    obtain ⟨d, M1, _, e2⟩ := Res.bind_eq_ok e
    obtain ⟨ds', M2, e3, e4⟩ := Res.bind_eq_ok e2
    cases e4
    exact congrArg (· + 1) (evs_len h.2 e3)
theorem evs_lenK {G : Gam} {cf : Str → Bool} {sc : Scope} {Φ : Orac} : ∀ {cs : Cs} {es : List Keyword} {ρ : Env'} {M M' : Store} {ds : List D}, chkKs G cs cf sc es = true → evs Φ cs ρ M = .ok ds M' → ds.length = (kwN es).length
  | .nil, [], _, _, _, _, _, e => by cases e; rfl
  | .nil, _ :: _, _, _, _, _, h, _ => by simp [chkKs] at h
  | .cons c r, [], _, _, _, _, h, _ => by simp [chkKs] at h
  | .cons c r, ⟨none, x, p⟩ :: xs, ρ, M, M', ds, h, e => by simp [chkKs] at h
  | .cons c r, ⟨some y, x, p⟩ :: xs, ρ, M, M', ds, h, e => by
    simp only [chkKs, Bool.and_eq_true] at h
    obtain ⟨d, M1, _, e2⟩ := Res.bind_eq_ok e
    obtain ⟨ds', M2, e3, e4⟩ := Res.bind_eq_ok e2
    cases e4
    exact congrArg (· + 1) (evs_lenK h.2 e3)
end CZ

set_option Elab.async false
set_option linter.all false
set_option maxRecDepth 100000
set_option maxHeartbeats 4000000
/-! CZ8e: enumerate of a tuple, walked. -/
namespace CZ
open PySem PySem.Spec PyProof.Rows L2

set_option maxHeartbeats 8000000 in
theorem enumT_new (t : Addr) (items : Array Value) (n : Nat) (dct : Option Addr) (sl : Array (Option Value)) :
    Meets (Builtin.«enumerate.__new__» ⟨[.type "enumerate", .ref t], []⟩) (fun _ R s => s.heap.get? t = some { cls := .type "tuple", dict := dct, data := .seq items n, slots := sl } ∧
      R (.ok (.ret (.ref (s.heap.push { cls := .type "tuple_iterator", data := .fields #[.ref t, .int 0 0] }).objs.size)))
        { s with heap := (s.heap.push { cls := .type "tuple_iterator", data := .fields #[.ref t, .int 0 0] }).push { cls := .type "enumerate", data := .fields #[.none, .bool false, .ref s.heap.objs.size, rawInt 0, .none, .none] } }) :=
  .of_wp fun prog w A R s h => by
    obtain ⟨hp, g, d, tk, os⟩ := s
    obtain ⟨hl, h⟩ := h
    have hsub := sub_enumerate
    have hT : Heap.IsTuple (Shared.heap ⟨hp, g, d, tk, os⟩) t items := ⟨_, hl, rfl, n, rfl⟩
    have q1 : ∀ {A' : Around} {E : Value → Shared → Prop} {Q : Value → Shared → Prop}, Q (.ref hp.objs.size) ⟨hp.push { cls := .type "tuple_iterator", data := .fields #[.ref t, .int 0 0] }, g, d, tk, os⟩ → wpAny (model prog w) A' (pyIter (.ref t)) Q E ⟨hp, g, d, tk, os⟩ :=
      fun q => (begins_tuple t items).iter prog w _ _ ⟨hp, g, d, tk, os⟩ _ hT q
    wp_walk using AutoSeq1.wpAny_loadPart' hl, q1
    refine wpAny_stack_any fun st => wpAny_pure ?_
    split
    · rename_i c _ _ _ _ _
      cases (c == Value.type "enumerate") <;> (wp_walk using AutoSeq1.wpAny_loadPart' hl, q1; exact ⟨_, rfl, h⟩)
    · wp_walk using AutoSeq1.wpAny_loadPart' hl, q1
      exact ⟨_, rfl, h⟩
section
variable {prog : Program} {w : World} {A : Around} {E : Value → Shared → Prop} {s : Shared}
theorem enumT_call {t : Addr} {items : Array Value} {Q : Value → Shared → Prop} (hT : s.heap.IsTuple t items)
    (h : ∀ h', IsEnum h' (s.heap.objs.size + 1) s.heap.objs.size 0 .none → h'.IsTupleIter s.heap.objs.size t 0 →
      (∀ b o, s.heap.get? b = some o → h'.get? b = some o) → Q (.ref (s.heap.objs.size + 1)) { s with heap := h' }) :
    wpAny (model prog w) A (call (.type "enumerate") [.ref t]) Q E s := by
  obtain ⟨⟨c, dct, dt, sl⟩, hl, hc, n, hd⟩ := hT
  replace hc : c = .type "tuple" := hc
  replace hd : dt = .seq items n := hd
  subst hc hd
  refine callType_new F.called_enumerate (by decide) (F.typeCall_enumerate_1 _) (F.newCall_enumerate_1 _) (fun obj => F.args_object_init_2 obj _) F.entry_enumerate_new (enumT_new t items n dct sl) ⟨hl, ?_⟩
  generalize eo : ({ cls := .type "tuple_iterator", data := .fields #[.ref t, .int 0 0] } : Obj) = oi
  generalize eh : s.heap.push oi = h1
  have hz : h1.objs.size = s.heap.objs.size + 1 := by rw [← eh]; exact Heap.size_push ..
  have hi : h1.get? s.heap.objs.size = some oi := by rw [← eh, ← eo]; exact Heap.get?_push_size _ rfl
  have hk : ∀ b o, s.heap.get? b = some o → h1.get? b = some o := fun b o x => by rw [← eh]; exact Heap.get?_push_of_some _ x
  have he : IsEnum (h1.push { cls := .type "enumerate", data := .fields #[.none, .bool false, .ref s.heap.objs.size, rawInt 0, .none, .none] }) (s.heap.objs.size + 1) s.heap.objs.size 0 .none := by
    rw [← hz]
    exact Heap.get?_push_size _ rfl
  show _ ∧ _
  rw [hz]
  refine ⟨⟨_, he, rfl⟩, h _ he ⟨_, Heap.get?_push_of_some _ hi, by rw [← eo], by rw [← eo]; rfl⟩ fun b o x => Heap.get?_push_of_some _ (hk b o x)⟩
end
/-- the tuple at a, each item in a new pair with its place -/
def IteT (K : PySem.W.Frag) (a : Addr) (n : Nat) : L2.It :=
  ⟨fun i H => i < n ∧ ∃ (xs : List V) (x : V), SqT K H a xs ∧ xs[i]? = some x,
   fun i H v H' => ∃ T x, v = .ref T ∧ H T = none ∧ H' = upd H T (.tup [.int (i : Nat), x]) ∧ ∀ xs, SqT K H a xs → xs[i]? = some x,
   fun i H => n ≤ i ∧ ∃ xs : List V, SqT K H a xs ∧ xs.length = n⟩
theorem turn_enumT {P : Program} {w : World} {K : PySem.W.Frag} {elts : List Expr} {kk : Nat} {tpos : Pos} (a e it : Addr) (n : Nat) (hai : a ≠ it) (hae : a ≠ e) :
    Turn P w K (.Tuple elts kk tpos) (IteT K a n) [e, it] e (fun i h => (∃ old, IsEnum h e it ((i : Nat) : Int) old) ∧ h.IsTupleIter it a i ∧ e ≠ it ∧ i ≤ n) where
  mem := by simp
  obj := fun i h st b hb => by
    obtain ⟨⟨old, he⟩, ⟨o, ho, hc, hd⟩, _⟩ := st
    rcases (show b = e ∨ b = it by simpa using hb) with z | z
    · subst z; exact ⟨_, he, fun v q => nomatch q⟩
    · subst z; exact ⟨o, ho, fun v q => by rw [hd] at q; cases q⟩
  keep := fun i h h' st k => let ⟨⟨old, he⟩, hi, hne⟩ := st; ⟨⟨old, k e (by simp) _ he⟩, hi.at fun o q => k it (by simp) o q, hne⟩
  item := by
    intro X hP hw hK hc i pins s σ H E I hf st hg
    subst hP hw hK
    obtain ⟨⟨old, he⟩, hit, hne, hin⟩ := st
    obtain ⟨hlt0, xs, x, hq, hx⟩ := hg
    obtain ⟨its, rv, p, hz⟩ := I.tuple hq
    obtain ⟨u, hu, ru⟩ := rv.get hx
    have hel : e < s.heap.objs.size := Heap.lt_size he
    have hil : it < s.heap.objs.size := by obtain ⟨_, q, _⟩ := hit; exact Heap.lt_size q
    have hlt : i < its.toArray.size := by
      have := (List.getElem?_eq_some_iff.mp hu).1
      simpa using this
    have hd : X.A.in1.handled = none := I.ok.hd hc
    refine wpAny_pyNext_enum_itemD (Draws.tuple hd it a hai its.toArray) he ⟨hit, p⟩ hlt hne (by simp only [List.mem_cons, List.not_mem_nil, or_false, not_or]; exact ⟨hne, fun z => hae z.symm⟩) fun u' h' tk hu' ho hst' hT hsz hk => ?_
    have eu : u' = u := by
      have q : its.toArray[i]? = some u := by simpa using hu
      exact Option.some.inj (hu'.symm.trans q)
    subst eu
    refine ⟨_, rfl, wpAny_letOwnedTupleGo_enum (s := { s with heap := h', toks := tk + 1 }) ho fun h'' he' sb => ?_⟩
    have hT2 : h''.get? s.heap.objs.size = some { cls := .type "tuple", data := .seq #[.int i tk, u'] } := (sb.2 _ (Nat.ne_of_gt hel)).trans hT
    have new : ObjOk X.prog X.w (upd H s.heap.objs.size (.tup [.int (i : Nat), x])) h'' s.heap.objs.size (.tup [.int (i : Nat), x]) :=
      ⟨by show 2 ≤ sizeLine; decide, [.int i tk, u'], .cons ⟨_, rfl⟩ (.cons ru .nil), ⟨_, hT2, rfl, _, rfl⟩⟩
    have I1 : Inv X pins σ (upd H s.heap.objs.size (.tup [.int (i : Nat), x])) { s with heap := h'', toks := tk + 1 } :=
      I.turnedNew (t' := tk + 1) (ch := [e, it]) (fun b ob hb q => (sb.2 b (fun z => hb (by simp [z]))).trans (hk b ob (fun z => hb (by simp [z])) (fun z => hb (by simp [z])) q)) hf (Nat.le_refl _) new
    refine ⟨.ref s.heap.objs.size, _, I1, rfl, ⟨_, x, rfl, I.hok.fresh (Nat.le_refl _), rfl, fun ys hy => by rw [I.tuple_inj hy hq]; exact hx⟩, ⟨⟨u', ?_⟩, hst'.1.at fun o q => (sb.2 it (Ne.symm hne)).trans q, hne, hlt0⟩, fun b hb => ?_⟩
    · rw [show ((i + 1 : Nat) : Int) = (i : Int) + 1 by omega]
      exact he'
    · have hb' : b < s.heap.objs.size := by
        rcases (show b = e ∨ b = it by simpa using hb) with z | z <;> (subst z; assumption)
      rw [upd_ne (Nat.ne_of_lt hb')]
      exact (hf b hb).1
  done := by
    intro X hP hw hK hc i pins s σ H E I hf st hg
    subst hP hw hK
    obtain ⟨⟨old, he⟩, hit, hne, hin⟩ := st
    obtain ⟨hge, xs, hq, hx⟩ := hg
    obtain ⟨its, rv, p, hz⟩ := I.tuple hq
    obtain ⟨f0, f1, f2, f3, f4, f5⟩ := hf it (by simp)
    have hl := rv.length
    have hd : X.A.in1.handled = none := I.ok.hd hc
    have ei : i = its.toArray.size := by simp only [List.size_toArray]; omega
    rw [ei] at hit
    refine wpAny_pyNext_enum_endD (Draws.tuple hd it a hai its.toArray) he ⟨hit, p⟩ fun h' eb => ⟨rfl, I.turned (t' := s.toks) (fun b o hb q => eb b o hb q) f0 f1 f3 f4 f5⟩
  self := fun A i s Q E st h => let ⟨⟨_, he⟩, _⟩ := st; wpAny_pyIter_enum he h
def iEnumT (K : PySem.W.Frag) (ta : TA) : TI := fun σ H R => ta σ H fun vs H1 => ∃ a xs, vs = [.ref a] ∧ ((SqL K H1 a xs ∧ R (Ite K a) H1) ∨ (SqT K H1 a xs ∧ R (IteT K a xs.length) H1))
theorem pi_enumT {X : Cx} {e : Expr} {ta : TA} {p pos tpos : Pos} {elts : List Expr} {kk : Nat} (hg : Gl X "enumerate") (hm : X.mg "enumerate" = none) (ha : PA X [e] ta) (hs : starEach [e] X.env = [(false, eval e X.env)] := by rfl) :
    PI X (.Tuple elts kk tpos) (.Call (.Name "enumerate" p) [e] [] pos) (iEnumT X.K ta) := by
  refine ⟨fun pins s σ H R I h => ?_⟩
  refine Call_ (ld_blt I hg hm boot_enumerate (PyProof.Rows.callWith_type1 (thn (ha.run pos pins s σ H _ I h) fun us s1 q0 => ?_) hs rfl))
  obtain ⟨vs, H1, I1, r1, a, xs, ex, q⟩ := q0
  subst ex
  cases r1 with
  | cons r rr =>
    cases rr
    cases r
    have fresh2 : ∀ b ∈ [s1.heap.objs.size + 1, s1.heap.objs.size], FpOk X pins H1 b := fun b hb => by
      have hle : s1.heap.objs.size ≤ b := by
        rcases (show b = s1.heap.objs.size + 1 ∨ b = s1.heap.objs.size by simpa using hb) with z | z
        · rw [z]; exact Nat.le_succ _
        · rw [z]; exact Nat.le_refl _
      exact I1.fpOk hle (I1.hok.fresh hle)
    rcases q with ⟨hq, q⟩ | ⟨hq, q⟩
    · obtain ⟨its, rv, p', hz⟩ := I1.list hq
      refine call_enumerate_list p'.isList fun h' he hit hsz hk => wpAny_pyIter_enum he ?_
      exact ⟨s1.heap.objs.size + 1, _, _, _, H1, rfl, I1.kept (t' := s1.toks) hk, turn_enum a (s1.heap.objs.size + 1) s1.heap.objs.size, ⟨⟨.none, he⟩, hit, Nat.succ_ne_self _⟩, fresh2, q⟩
    · obtain ⟨its, rv, p', hz⟩ := I1.tuple hq
      have hlt : a < s1.heap.objs.size := by obtain ⟨_, q, _⟩ := p'; exact Heap.lt_size q
      refine enumT_call p' fun h' he hit hk => wpAny_pyIter_enum he ?_
      exact ⟨s1.heap.objs.size + 1, _, _, _, H1, rfl, I1.kept (t' := s1.toks) hk, turn_enumT a (s1.heap.objs.size + 1) s1.heap.objs.size xs.length (Nat.ne_of_lt hlt) (Nat.ne_of_lt (Nat.lt_succ_of_lt hlt)), ⟨⟨.none, he⟩, hit, Nat.succ_ne_self _, Nat.zero_le _⟩, fresh2, q⟩
theorem itet_read {K : PySem.W.Frag} {w' : Wd} {a : Addr} {xs : List D} {vs : List V} (h1 : w'.H a = some (.tup vs)) (h2 : Rps K w' vs xs) :
  (∀ (i : Nat) w1, Ext w' w1 → i < (enmL 0 xs).length → (IteT K a vs.length).go i w1.H) ∧ (∀ (i : Nat) w1, Ext w' w1 → (enmL 0 xs).length ≤ i → (IteT K a vs.length).stop i w1.H) ∧
    ∀ (i : Nat) w1 x H', Ext w' w1 → (∃ M1, RS K w1 M1) → (IteT K a vs.length).yld i w1.H x H' → i < (enmL 0 xs).length → ∃ w2 d, w2.H = H' ∧ Ext w1 w2 ∧ (∀ M1, RS K w1 M1 → RS K w2 M1) ∧ (enmL 0 xs)[i]? = some d ∧ Rp K w2 x d := by
  have st : ∀ w1, Ext w' w1 → w1.H a = some (.tup vs) := fun w1 x => x.hard a _ h1 rfl
  rw [enmL_len]
  refine ⟨fun i w1 x hi => ?_, fun i w1 x hi => ⟨by rw [h2.length]; exact hi, vs, SqT.at_ (st w1 x), rfl⟩, fun i w1 x H' X1 hR y hi => ?_⟩
  · have hv : i < vs.length := by rw [h2.length]; exact hi
    exact ⟨hv, vs, vs[i], SqT.at_ (st w1 x), List.getElem?_eq_getElem hv⟩
  · obtain ⟨T, x0, rfl, hT, rfl, y⟩ := y
    obtain ⟨M1, R1⟩ := hR
    obtain ⟨v, q1, q2⟩ := h2.get (List.getElem?_eq_getElem hi)
    have ex : x0 = v := Option.some.inj ((y vs (SqT.at_ (st w1 X1))).symm.trans q1)
    subst ex
    obtain ⟨X2, _⟩ := R1.fresh (o := .tup [.int (i : Nat), x0]) hT
    refine ⟨⟨w1.F, w1.ad, upd w1.H T (.tup [.int (i : Nat), x0])⟩, _, rfl, X2, fun M2 R2 => (R2.fresh hT).2, enmL_at xs 0 i _ (List.getElem?_eq_getElem hi), .tup upd_same (.cons ?_ (.cons ((q2.mono X1).mono X2) .nil))⟩
    rw [Nat.zero_add]
    exact .int _
/-! ### x[::-1], a list or a tuple -/
section
variable {prog : Program} {w : World} {A : Around} {E : Value → Shared → Prop} {s : Shared}
theorem sliceApplied_rev {sl : Addr} {n : Nat} {st : Value} {Q : Int × Int × Nat → Shared → Prop} (hs : s.heap.IsSliceOf sl .none .none st) (ps : IsPart st (some (-1)))
    (h : Q ((n : Int) - 1, -1, n) s) : wpAny (model prog w) A (Builtin.Slice.sliceApplied (.ref sl) (pure (n : Int))) Q E s := by
  obtain ⟨os, hos, hcs, hds⟩ := id hs
  unfold Builtin.Slice.sliceApplied Builtin.Slice.sliceFields
  refine wpAny_bind (wpAny_bind (wpAny_field hos hds (x := .none) rfl (wpAny_bind (wpAny_field hos hds (x := .none) rfl (wpAny_bind (wpAny_field hos hds (x := st) rfl (wpAny_pure ?_)))))))
  refine wpAny_bind (HT.slicePart_ ps ?_)
  show wpAny _ _ (if ((-1 : Int) == 0) = true then _ else _) _ _ s
  rw [if_neg (by decide)]
  refine wpAny_bind (slicePart_none (wpAny_bind (slicePart_none (wpAny_bind (wpAny_pure ?_)))))
  have e1 : Builtin.Slice.sliceAdjust none none (-1) (n : Int) = ((n : Int) - 1, -1) := rfl
  have e2 : Builtin.Slice.slicePlaces ((n : Int) - 1) (-1) (-1) = n := by
    unfold Builtin.Slice.slicePlaces
    rw [if_neg (by decide)]
    have e3 : -(-1 : Int) = 1 := rfl
    rw [e3, Int.ediv_one]
    split <;> omega
  show wpAny _ _ (match Builtin.Slice.sliceAdjust none none (-1) (n : Int) with | (lo, hi) => pure (lo, (-1 : Int), Builtin.Slice.slicePlaces lo hi (-1))) _ _ s
  rw [e1]
  show wpAny _ _ (pure ((n : Int) - 1, (-1 : Int), Builtin.Slice.slicePlaces ((n : Int) - 1) (-1) (-1))) _ _ s
  rw [e2]
  exact wpAny_pure h
theorem pick_rev (xs : Array Value) : ((List.range xs.size).filterMap fun (m : Nat) => xs[((xs.size : Int) - 1 + (m : Int) * (-1)).toNat]?).toArray = xs.toList.reverse.toArray := by
  congr 1
  have e : ∀ k, k ≤ xs.size → ((List.range k).filterMap fun (m : Nat) => xs[((xs.size : Int) - 1 + (m : Int) * (-1)).toNat]?) = xs.toList.reverse.take k := by
    intro k
    induction k with
    | zero => intro _; simp
    | succ k ih =>
      intro hk
      rw [List.range_succ, List.filterMap_append, ih (by omega)]
      have hi : ((xs.size : Int) - 1 + (k : Int) * (-1)).toNat = xs.size - 1 - k := by omega
      have hlt : xs.size - 1 - k < xs.size := by omega
      rw [List.take_succ_eq_append_getElem (by simp; omega)]
      congr 1
      simp only [List.filterMap_cons, List.filterMap_nil, hi]
      rw [Array.getElem?_eq_getElem hlt]
      simp
  have := e xs.size (Nat.le_refl _)
  rw [this]
  exact List.take_of_length_le (by simp)
theorem getItem_tuple_rev {t sl : Addr} {items : Array Value} {st : Value} {Q : Value → Shared → Prop} (ht : IsTup s.heap t items) (hs : s.heap.IsSliceOf sl .none .none st) (ps : IsPart st (some (-1)))
    (h : Q (.ref s.heap.objs.size) { s with heap := s.heap.push { cls := .type "tuple", data := .seq items.toList.reverse.toArray } })
    (hsz : items.size ≤ sizeLine) : wpAny (model prog w) A (getItem (.ref t) (.ref sl)) Q E s := by
  have htake : sizeOk (.seq items.toList.reverse.toArray) := by
    show items.toList.reverse.toArray.size ≤ sizeLine
    rw [List.size_toArray, List.length_reverse, Array.length_toList]
    omega
  obtain ⟨os, hos, hcs, hds⟩ := id hs
  have hTs : s.TypeIs (.ref sl) "slice" := ⟨os, hos, hcs⟩
  unfold getItem
  try with_reducible refine wpAny_holding ?_
  first | refine wpAny_bind (wpAny_pure ?_) | skip
  refine wpAny_bind (wpAny_sequenceKey ht.typeIs (by decide) ?_)
  refine wpAny_bind (wpAny_callSpecial?_slot (name := Str.ofString "__getitem__") ht.typeIs PyProof.Rows.slot_tuple_getitem
    (wpAny_call_entry PyProof.Rows.slot_tuple_getitem ht.typeIs entry_tuple_getitem ?_ (args_tuple_getitem _ _)))
  show wpAny _ _ (Builtin.Tuple.tupleItemsOf (.ref t) >>= _) _ _ s
  refine wpAny_bind (tupleItemsOf_ ht ?_)
  refine wpAny_bind (wpAny_typeOf hTs ?_)
  rw [if_pos (by decide)]
  refine wpAny_bind (sliceApplied_rev hs ps ?_)
  have hno : ¬ ((((items.size : Int) - 1) == 0 && (-1 : Int) == 1 && items.size == items.size) = true) := by
    intro q
    rw [Bool.and_eq_true, Bool.and_eq_true] at q
    exact absurd q.1.2 (by decide)
  show wpAny _ _ (if (((items.size : Int) - 1) == 0 && (-1 : Int) == 1 && items.size == items.size) = true then _ else _) _ _ s
  rw [if_neg hno, pick_rev]
  first
    | exact wpAny_bind (m := Builtin.Tuple.tupleExact _) (wpAny_newObj_type (wpAny_pure ⟨_, rfl, wpAny_pure h⟩) htake)
    | exact wpAny_bind (m := Builtin.Tuple.tupleExact _) (wpAny_newObj_type (wpAny_bind (wpAny_pure (wpAny_pure ⟨_, rfl, wpAny_pure h⟩))) htake)
    | exact wpAny_bind (wpAny_bind (m := Builtin.Tuple.tupleExact _) (wpAny_newObj_type (wpAny_pure (wpAny_pure ⟨_, rfl, wpAny_pure h⟩)) htake))
    | exact wpAny_bind (wpAny_bind (m := Builtin.Tuple.tupleExact _) (wpAny_newObj_type (wpAny_pure ⟨_, rfl, wpAny_pure h⟩) htake))
end
def tRevLT (K : PySem.W.Frag) (te : TE) : TE := fun σ H Q => te σ H fun x H1 => (∃ a xs, x = .ref a ∧ SqL K H1 a xs ∧ ∀ p, H1 p = none → Q (.ref p) (upd H1 p (.lst xs.reverse))) ∨ (∃ a xs, x = .ref a ∧ SqT K H1 a xs ∧ ∀ p, H1 p = none → Q (.ref p) (upd H1 p (.tup xs.reverse)))
section
variable {X : Cx}
theorem pe_revLT {e : Expr} {te : TE} {k : Nat} {p1 p2 p3 pos : Pos} (he : PE X e te) : PE X (.Subscript e (.Slice none none (some (.UnaryOp .USub (.Constant (.int 1) k p1) p2)) p3) pos) (tRevLT X.K te) := by
  refine ⟨fun pins s σ H Q I h => ?_⟩
  refine Subscript_ (thn (he.run pins s σ H _ I h) fun v s1 ⟨x, H1, I1, r1, q1⟩ => ?_)
  obtain ⟨a, rfl⟩ : ∃ a, x = .ref a := by
    rcases q1 with ⟨a, xs, ex, _⟩ | ⟨a, xs, ex, _⟩ <;> exact ⟨a, ex⟩
  cases r1
  have hst : PO X (some (.UnaryOp .USub (.Constant (.int 1) k p1) p2)) (tPart (tUn (rU fun i => .int (-i)) (tC (.int 1)))) := po_some (pe_un un_neg pe_int)
  refine wpAny_Slice (thn (po_none.run pins s1 σ H1 (fun o H2 => o = none ∧ H2 = H1) I1 ⟨rfl, rfl⟩) fun vl s2 ⟨l, H2, I2, pl, el, e2⟩ => ?_)
  subst el e2
  refine thn (po_none.run pins s2 σ H2 (fun o H3 => o = none ∧ H3 = H2) I2 ⟨rfl, rfl⟩) fun vu s3 ⟨u, H3, I3, pu, eu, e3⟩ => ?_
  subst eu e3
  refine thn (hst.run pins s3 σ H3 (fun o H4 => o = some (-1) ∧ H4 = H3) I3 ⟨1, rfl, -1, rfl, rfl, rfl⟩) fun vs s4 ⟨o, H4, I4, ps, eo, e4⟩ => ?_
  subst eo e4
  have I5 : Inv X pins σ H4 { s4 with heap := s4.heap.push { cls := .type "slice", data := .fields #[vl, vu, vs] } } := I4.kept (t' := s4.toks) fun b ob q => Heap.get?_push_of_some _ q
  show wpAny (model X.prog X.w) X.A (subscriptTail e (.Slice none none (some (.UnaryOp .USub (.Constant (.int 1) k p1) p2)) p3) (.ref a) (.ref s4.heap.objs.size)) (EP X pins σ Q) X.xe { s4 with heap := s4.heap.push { cls := .type "slice", data := .fields #[vl, vu, vs] } }
  rcases q1 with ⟨a', xs, ex, hx, q⟩ | ⟨a', xs, ex, hx, q⟩
  · cases ex
    obtain ⟨its, r, ht, hz⟩ := I5.list hx
    have hlen := r.length
    refine tail_any (ops := [.ref a, .ref s4.heap.objs.size]) ht.isList.typeIs (PySem.slot_list_getitem.lookup) ?_ (by with_unfolding_all rfl)
    refine wpAny_getItem_list_slice ht.isList (Heap.IsSliceOf.new _ vl vu vs) pl pu ps (by decide) ?_ (by rw [List.size_toArray]; omega)
    rw [PySem.W.krv_pick]
    refine ⟨.ref _, _, I5.laid (t' := s4.toks) (o := .lst xs.reverse) (fun b ob q => Heap.get?_push_of_some _ q) (Nat.le_refl _) ?_, rfl, q _ (I5.hok.fresh (Nat.le_refl _))⟩
    exact ⟨by rw [List.length_reverse]; exact hz, _, 0, r.reverse, Heap.get?_push_size _ rfl⟩
  · cases ex
    obtain ⟨its, r, ht, hz⟩ := I5.tuple hx
    have hlen := r.length
    cases pl
    cases pu
    refine tail_any (ops := [.ref a, .ref s4.heap.objs.size]) ht.typeIs (PyProof.Rows.slot_tuple_getitem.lookup) ?_ (by with_unfolding_all rfl)
    refine getItem_tuple_rev ht (Heap.IsSliceOf.new _ _ _ vs) ps ?_ (by rw [List.size_toArray]; omega)
    refine ⟨.ref _, _, I5.laid (t' := s4.toks) (o := .tup xs.reverse) (fun b ob q => Heap.get?_push_of_some _ q) (Nat.le_refl _) ?_, rfl, q _ (I5.hok.fresh (Nat.le_refl _))⟩
    exact ⟨by rw [List.length_reverse]; exact hz, _, r.reverse, IsTup.new _ _⟩
end
end CZ

set_option Elab.async false
set_option linter.all false
set_option maxRecDepth 100000
set_option maxHeartbeats 16000000
/-! CZ9: expressions do what the tree says: the theorem. -/
namespace CZ
open PySem PySem.Spec PyProof.Rows L2 RZ

theorem Gd.blk {X : Cx} {G : Gam} {sc : Scope} {cf : Str → Bool} {Φ : Orac} {n : Nat} (g : Gd X G sc cf Φ n) (s : Shared) (H : Hp) (scope : Scope) (C0 : Addr) (cl : List (Str × Addr)) (fp : List Addr) (hk : scope.kind = .function) :
    Gd (X.blk s H scope (compEnvC scope cl C0 X.env) fp) G (relS scope sc) (fun y => scope.names.lookup y == some .cell) Φ n := by
  refine ⟨g.N, g.nd, ?_, ?_, g.calm, g.room, g.gu, fun x h => h, g.blt, g.conI, g.conS, g.fns⟩
  · show relS scope X.env.scope = _
    rw [g.scp]
  · exact hk
theorem own_slots {G : Gam} {cf : Str → Bool} {sc : Scope} : ∀ {es : List Expr} {l : List Nat}, tgB G cf sc es l = true → (ownOf es l).map (·.2) = l
  | [], [], _ => rfl
  | [], _ :: _, h => by simp [tgB] at h
  | e :: es, l, h => by
    cases e <;> cases l <;> first | (simp [tgB] at h; done) | skip
    simp only [tgB, Bool.and_eq_true] at h
    show _ :: (ownOf es _).map (·.2) = _
    rw [own_slots h.2]
theorem ownT_slots {G : Gam} {cf : Str → Bool} {sc : Scope} {e : Expr} {t : Tg} (h : tgtB G cf sc e t = true) : (ownT e t).map (·.2) = t.slots := by
  cases t with
  | nm i =>
    simp only [tgtB] at h
    split at h
    · rfl
    · cases h
  | tp l =>
    simp only [tgtB] at h
    split at h
    · rw [Bool.and_eq_true] at h
      exact own_slots h.1
    · cases h
theorem folded_eq {e : Expr} {env : Env} (h : notSet e = true) : ∀ x, foldedSetIterable e env x = pure x := by
  intro x
  cases e <;> first | rfl | cases h
theorem plain_ix {b : Expr} (h : (match b with
      | .Slice _ _ _ _ => false
      | _ => true) = true) : PlainIx b := fun o i => by
  cases b <;> first | rfl | cases h
theorem attr_base {o : Expr} {x : Str} {env : Env} (h : (match o with
      | .Name _ _ => true
      | .Subscript _ _ _ => true
      | _ => false) = true) : attributeBase o x env (eval o env) = eval o env := by
  cases o <;> first | rfl | cases h
theorem nBO {a : Expr} {b : Expr} (h : a = b) (hb : ∀ op es pos, b ≠ .BoolOp op es pos) : ∀ op es pos, a ≠ .BoolOp op es pos := h ▸ hb

section
variable {G : Gam} {Φ : Orac} {n : Nat}
mutual
theorem sndE : ∀ (c : C) {X : Cx} {sc : Scope} {cf : Str → Bool} {e : Expr}, Gd X G sc cf Φ n → chkE G c cf sc e = true → SndE X Φ e c
  | .var i, X, sc, cf, e, g, h => by
    simp only [chkE] at h
    split at h
    · rename_i x pos
      obtain ⟨h1, h2, h3, h4⟩ := vis_of g h
      refine .mk' (PE.weak (pe_var h1 h2 h3 h4) fun σ H Q q => ?_) (fun _ _ _ z => nomatch z) (fun _ _ _ _ z => nomatch z) (fun _ _ z => nomatch z)
      obtain ⟨w, ρ, M, d, M', rfl, R, E, e1, k⟩ := q
      have e2 : (match ρ[i]? with
        | some (some d) => Res.ok d M
        | _ => .no) = .ok d M' := e1
      split at e2
      · rename_i d0 q
        cases e2
        obtain ⟨v, hv, p⟩ := E.val i _ q
        exact ⟨v, hv, k w v (Ext.refl w) R p⟩
      · cases e2
    · cases h
  | .kN, X, sc, cf, e, g, h => by
    simp only [chkE] at h
    split at h
    · exact .lit pe_non (fun _ _ => rfl) (fun _ => .non) (fun _ _ _ z => nomatch z) (fun _ _ _ _ z => nomatch z) (fun _ _ z => nomatch z)
    · cases h
  | .kB b, X, sc, cf, e, g, h => by
    simp only [chkE] at h
    split at h
    · have q := eq_of_beq h
      subst q
      exact .lit pe_bl (fun _ _ => rfl) (fun _ => .bl _) (fun _ _ _ z => nomatch z) (fun _ _ _ _ z => nomatch z) (fun _ _ z => nomatch z)
    · cases h
  | .kI b, X, sc, cf, e, g, h => by
    simp only [chkE] at h
    split at h
    · have q := of_decide_eq_true h
      subst q
      exact .lit pe_int (fun _ _ => rfl) (fun _ => .int _) (fun _ _ _ z => nomatch z) (fun _ _ _ _ z => nomatch z) (fun _ _ z => nomatch z)
    · cases h
  | .kS b, X, sc, cf, e, g, h => by
    simp only [chkE] at h
    split at h
    · have q := of_decide_eq_true h
      subst q
      exact .lit pe_str (fun _ _ => rfl) (fun _ => .str _) (fun _ _ _ z => nomatch z) (fun _ _ _ _ z => nomatch z) (fun _ _ z => nomatch z)
    · cases h
  | .glo x d, X, sc, cf, e, g, h => by
    simp only [chkE] at h
    split at h
    · simp only [Bool.and_eq_true, decide_eq_true_eq] at h
      obtain ⟨⟨rfl, h2⟩, h3⟩ := h
      obtain ⟨h4, h5⟩ := gl_of g h2
      split at h3
      · obtain ⟨t, ht⟩ := g.conI _ _ (of_decide_eq_true h3)
        exact .lit (pe_glob (v := .int _) h4 ht ⟨t, rfl⟩ h5) (fun _ _ => rfl) (fun _ => .int _) (fun _ _ _ z => nomatch z) (fun _ _ _ _ z => nomatch z) (fun _ _ z => nomatch z)
      · obtain ⟨t, ht⟩ := g.conS _ _ (of_decide_eq_true h3)
        exact .lit (pe_glob (v := .str _) h4 ht ⟨t, rfl⟩ h5) (fun _ _ => rfl) (fun _ => .str _) (fun _ _ _ z => nomatch z) (fun _ _ _ _ z => nomatch z) (fun _ _ z => nomatch z)
      · cases h3
    · cases h
  | .bin o a b, X, sc, cf, e, g, h => by
    simp only [chkE] at h
    split at h
    · simp only [Bool.and_eq_true, decide_eq_true_eq] at h
      obtain ⟨⟨rfl, h2⟩, h3⟩ := h
      have ha := sndE a g h2
      have hb := sndE b g h3
      refine .mk' (PE.weak (pe_op (opB o) ha.pe hb.pe) fun σ H Q q => ?_) (fun _ _ _ z => nomatch z) (fun _ _ _ _ z => nomatch z) (fun _ _ z => nomatch z)
      obtain ⟨w, ρ, M, d, M', rfl, R, E, e1, k⟩ := q
      refine td2 R E e1 fun x y M2 w2 v u X2 R2 p1 p2 e2 => ?_
      obtain ⟨e3, rfl⟩ := opt_eq_ok e2
      exact ⟨w2, M2, x, y, d, rfl, R2, p1, p2, e3, fun w3 v3 X3 R3 p3 => k w3 v3 (X2.trans X3) R3 p3⟩
    · cases h
  | .binL o a b, X, sc, cf, e, g, h => by
    simp only [chkE] at h
    split at h
    · simp only [Bool.and_eq_true, decide_eq_true_eq] at h
      obtain ⟨⟨rfl, h2⟩, h3⟩ := h
      have ha := sndE a g h2
      have hb := sndE b g h3
      refine .mk' (PE.weak (pe_op (opBL o) ha.pe hb.pe) fun σ H Q q => ?_) (fun _ _ _ z => nomatch z) (fun _ _ _ _ z => nomatch z) (fun _ _ z => nomatch z)
      obtain ⟨w, ρ, M, d, M', rfl, R, E, e1, k⟩ := q
      refine td2 R E e1 fun x y M2 w2 v u X2 R2 p1 p2 e2 => ?_
      exact ⟨w2, M2, x, y, d, M', rfl, R2, p1, p2, e2, fun w3 v3 X3 R3 p3 => k w3 v3 (X2.trans X3) R3 p3⟩
    · cases h
  | .slcL a lo hi, X, sc, cf, e, g, h => by
    simp only [chkE] at h
    split at h
    · rename_i x l hh _ _
      simp only [Bool.and_eq_true] at h
      obtain ⟨⟨h1, h2⟩, h3⟩ := h
      have ha := sndE a g h1
      have po : ∀ (c : C) (o : Option Expr), (match o with
          | none => isKN c
          | some y => chkE G c cf sc y && !isKN c) = true → (∀ y, o = some y → chkE G c cf sc y = true → PE X y (TD X.K Φ c)) → PO X o (fun σ H Q => ∃ w ρ M d p M', w.H = H ∧ RS X.K w M ∧ RE X.K w σ ρ ∧ ev Φ c ρ M = .ok d M' ∧ partC c d = some p ∧ ∀ w', Ext w w' → RS X.K w' M' → Q p w'.H) := fun c o hc ih => by
        cases o with
        | none =>
          have hc : isKN c = true := hc
          cases c <;> first | exact absurd hc Bool.false_ne_true | skip
          refine ⟨fun pins s σ H Q I q => ?_⟩
          obtain ⟨w, ρ, M, d, p, M', rfl, R, E, e1, e2, k⟩ := q
          cases e1
          cases e2
          exact po_none.run pins s σ w.H Q I (k w (Ext.refl w) R)
        | some y =>
          have hc : (chkE G c cf sc y && !isKN c) = true := hc
          simp only [Bool.and_eq_true, Bool.not_eq_true'] at hc
          have hp := ih y rfl hc.1
          refine ⟨fun pins s σ H Q I q => ?_⟩
          obtain ⟨w, ρ, M, d, p, M', rfl, R, E, e1, e2, k⟩ := q
          refine (po_some hp).run pins s σ w.H Q I ⟨w, ρ, M, d, M', rfl, R, E, e1, fun w1 v1 X1 R1 p1 => ?_⟩
          have hd : ∃ i, d = .int i ∧ p = some i := by
            cases c <;> cases d <;> first | exact absurd hc.2 (by decide) | (cases e2; exact ⟨_, rfl, rfl⟩) | cases e2
          obtain ⟨i, rfl, rfl⟩ := hd
          cases p1
          exact ⟨i, rfl, k w1 X1 R1⟩
      have hl := po lo l h2 fun y _ hy => (sndE lo g hy).pe
      have hu := po hi hh h3 fun y _ hy => (sndE hi g hy).pe
      refine .mk' (PE.weak (pe_slice slRL ha.pe hl hu) fun σ H Q q => ?_) (fun _ _ _ z => nomatch z) (fun _ _ _ _ z => nomatch z) (fun _ _ z => nomatch z)
      obtain ⟨w, ρ, M, d, M', rfl, R, E, e1, k⟩ := q
      refine td1 (t := TD X.K Φ a) R E e1 fun x0 M1 w1 v1 X1 R1 p1 e2 => ?_
      obtain ⟨d2, M2, e3, e4⟩ := Res.bind_eq_ok e2
      obtain ⟨d3, M3, e5, e6⟩ := Res.bind_eq_ok e4
      obtain ⟨zs, e7, e7'⟩ := newL_ok e6
      obtain ⟨q1, f1, e8⟩ := Option.bind_eq_some_iff.mp e7
      obtain ⟨q2, f2, e9⟩ := Option.bind_eq_some_iff.mp e8
      refine ⟨w1, ρ, M1, d2, q1, M2, rfl, R1, E.mono X1, e3, f1, fun w2 X2 R2 => ?_⟩
      refine ⟨w2, ρ, M2, d3, q2, M3, rfl, R2, (E.mono X1).mono X2, e5, f2, fun w3 X3 R3 => ?_⟩
      exact ⟨w3, M3, x0, d, M', rfl, R3, (p1.mono X2).mono X3, by rw [e9]; exact e7', fun w4 v4 X4 R4 p4 => k w4 v4 (((X1.trans X2).trans X3).trans X4) R4 p4⟩
    · cases h
  | .neg a, X, sc, cf, e, g, h => by
    simp only [chkE] at h
    split at h
    · have ha := sndE a g h
      refine .mk' (PE.weak (pe_un un_neg ha.pe) fun σ H Q q => ?_) (fun _ _ _ z => nomatch z) (fun _ _ _ _ z => nomatch z) (fun _ _ z => nomatch z)
      obtain ⟨w, ρ, M, d, M', rfl, R, E, e1, k⟩ := q
      refine td1 (t := TD X.K Φ a) R E e1 fun x M1 w1 v1 X1 R1 p1 e2 => ?_
      cases x with
      | int i => cases p1; cases e2; exact ⟨i, rfl, k w1 _ X1 R1 (.int _)⟩
      | _ => cases e2
    · cases h
  | .cmp o a b, X, sc, cf, e, g, h => by
    simp only [chkE] at h
    split at h
    · simp only [Bool.and_eq_true, decide_eq_true_eq, Bool.not_eq_true'] at h
      obtain ⟨⟨⟨rfl, h2⟩, h3⟩, h4⟩ := h
      have ha := sndE a g h2
      have hb := sndE b g h3
      have rd : ∀ σ H Q, TD X.K Φ (.cmp o a b) σ H Q → tOp (rC X.K o) (TD X.K Φ a) (TD X.K Φ b) σ H Q := fun σ H Q q => by
        obtain ⟨w, ρ, M, d, M', rfl, R, E, e1, k⟩ := q
        refine td2 R E e1 fun x y M2 w2 v u X2 R2 p1 p2 e2 => ?_
        obtain ⟨e3, rfl⟩ := opt_eq_ok e2
        obtain ⟨b', e4, rfl⟩ := Option.map_eq_some_iff.mp e3
        exact ⟨w2, M2, x, y, b', rfl, R2, p1, p2, e4, k w2 _ X2 R2 (.bl _)⟩
      refine ⟨PE.weak (pe_cmpR (opC g.hu o) ha.pe hb.pe h4) rd, fun _ => pt_tb (pt_cmpR (opC g.hu o) ha.pe hb.pe h4) rd fun ρ M d M' e1 => ?_, fun _ _ _ z => nomatch z⟩
      obtain ⟨x, M1, _, e2⟩ := Res.bind_eq_ok e1
      obtain ⟨y, M2, _, e3⟩ := Res.bind_eq_ok e2
      obtain ⟨e4, _⟩ := opt_eq_ok e3
      obtain ⟨b', _, rfl⟩ := Option.map_eq_some_iff.mp e4
      exact ⟨b', rfl⟩
    · cases h
  | .chn o p a b c, X, sc, cf, e, g, h => by
    simp only [chkE] at h
    split at h
    · simp only [Bool.and_eq_true, decide_eq_true_eq, Bool.not_eq_true'] at h
      obtain ⟨⟨⟨⟨⟨rfl, rfl⟩, h2⟩, h3⟩, h4⟩, h5⟩ := h
      have ha := sndE a g h2
      have hb := sndE b g h3
      have hc := sndE c g h4
      have rd : ∀ σ H Q, TD X.K Φ (.chn o p a b c) σ H Q → tChain (rC X.K o) (rC X.K p) (TD X.K Φ a) (TD X.K Φ b) (TD X.K Φ c) σ H Q := fun σ H Q q => by
        obtain ⟨w, ρ, M, d, M', rfl, R, E, e1, k⟩ := q
        refine td2 R E e1 fun x y M2 w2 v u X2 R2 p1 p2 e2 => ?_
        cases q1 : cop o x y with
        | none => rw [q1] at e2; cases e2
        | some t =>
          have hx : cop o (x.look M2) (y.look M2) = some t := by
            have q0 := q1
            cases o <;> cases x <;> cases y <;> first | exact q0 | cases q0 | (exfalso; revert q0; simp [cop, eqD, inD, D.sh]; done)
          refine ⟨w2, M2, x, y, t, rfl, R2, p1, p2, hx, t, rfl, ?_⟩
          rw [q1] at e2
          cases t with
          | true =>
            rw [if_pos rfl]
            have e2 : (ev Φ c ρ M2).bind (fun z M3 => opt ((cop p y z).map .bl) M3) = .ok d M' := e2
            refine td1 (t := TD X.K Φ c) R2 (E.mono X2) e2 fun z M3 w3 v3 X3 R3 p3 e3 => ?_
            obtain ⟨e4, rfl⟩ := opt_eq_ok e3
            obtain ⟨b', e5, rfl⟩ := Option.map_eq_some_iff.mp e4
            have hz : cop p (y.look M3) (z.look M3) = some b' := by
              have q0 := e5
              cases p <;> cases y <;> cases z <;> first | exact q0 | cases q0 | (exfalso; revert q0; simp [cop, eqD, inD, D.sh]; done)
            exact ⟨w3, M3, y, z, b', rfl, R3, p2.mono X3, p3, hz, k w3 _ (X2.trans X3) R3 (.bl _)⟩
          | false =>
            rw [if_neg Bool.false_ne_true]
            cases e2
            exact k w2 _ X2 R2 (.bl _)
      refine ⟨PE.weak (pe_chain (opC g.hu o) (opC g.hu p) ha.pe hb.pe hc.pe h5) rd, fun _ => pt_tb (pt_chain (opC g.hu o) (opC g.hu p) ha.pe hb.pe hc.pe h5) rd fun ρ M d M' e1 => ?_, fun _ _ _ z => nomatch z⟩
      obtain ⟨x, M1, _, e2⟩ := Res.bind_eq_ok e1
      obtain ⟨y, M2, _, e3⟩ := Res.bind_eq_ok e2
      cases q1 : cop o x y with
      | none => rw [q1] at e3; cases e3
      | some t =>
        rw [q1] at e3
        cases t with
        | true =>
          obtain ⟨z, M3, _, e4⟩ := Res.bind_eq_ok e3
          obtain ⟨e5, _⟩ := opt_eq_ok e4
          obtain ⟨b', _, rfl⟩ := Option.map_eq_some_iff.mp e5
          exact ⟨b', rfl⟩
        | false => cases e3; exact ⟨false, rfl⟩
    · cases h
  | .isN a, X, sc, cf, e, g, h => by
    simp only [chkE] at h
    split at h
    · have ha := sndE a g h
      have rd : ∀ σ H Q, TD X.K Φ (.isN a) σ H Q → tOp (fun x y H Q => y = .non ∧ Q (.bl (decide (x = .non))) H) (TD X.K Φ a) (tC .non) σ H Q := fun σ H Q q => by
        obtain ⟨w, ρ, M, d, M', rfl, R, E, e1, k⟩ := q
        refine td1 (t := TD X.K Φ a) R E e1 fun x M1 w1 v1 X1 R1 p1 e2 => ⟨rfl, ?_⟩
        cases p1 <;> (cases e2; exact k w1 _ X1 R1 (.bl _))
      refine ⟨PE.weak (pe_cmpR op_isN ha.pe pe_non (nomark _)) rd, fun _ => pt_tb (pt_cmpR op_isN ha.pe pe_non (nomark _)) rd fun ρ M d M' e1 => ?_, fun _ _ _ z => nomatch z⟩
      obtain ⟨x, M1, _, e2⟩ := Res.bind_eq_ok e1
      cases e2
      exact ⟨_, rfl⟩
    · cases h
  | .notN a, X, sc, cf, e, g, h => by
    simp only [chkE] at h
    split at h
    · have ha := sndE a g h
      have rd : ∀ σ H Q, TD X.K Φ (.notN a) σ H Q → tOp (fun x y H Q => y = .non ∧ Q (.bl (!decide (x = .non))) H) (TD X.K Φ a) (tC .non) σ H Q := fun σ H Q q => by
        obtain ⟨w, ρ, M, d, M', rfl, R, E, e1, k⟩ := q
        refine td1 (t := TD X.K Φ a) R E e1 fun x M1 w1 v1 X1 R1 p1 e2 => ⟨rfl, ?_⟩
        cases p1 <;> (cases e2; exact k w1 _ X1 R1 (.bl _))
      refine ⟨PE.weak (pe_cmpR op_notN ha.pe pe_non (nomark _)) rd, fun _ => pt_tb (pt_cmpR op_notN ha.pe pe_non (nomark _)) rd fun ρ M d M' e1 => ?_, fun _ _ _ z => nomatch z⟩
      obtain ⟨x, M1, _, e2⟩ := Res.bind_eq_ok e1
      cases e2
      exact ⟨_, rfl⟩
    · cases h
  | .and a b, X, sc, cf, e, g, h => by
    simp only [chkE] at h
    split at h
    · rename_i x y r pos
      simp only [Bool.and_eq_true] at h
      obtain ⟨⟨h1, h2⟩, h3⟩ := h
      have ha := sndE a g h1
      have hb : PE X (.BoolOp .And (y :: r) pos) (TD X.K Φ b) ∧ PW X (.BoolOp .And (y :: r) pos) (TT X.K Φ b) := by
        cases r with
        | nil =>
          simp only [Bool.and_eq_true] at h3
          have hb := sndE b g h3.1
          exact ⟨pe_one hb.pe, pw_and1 (hb.pt h3.2)⟩
        | cons z r =>
          have hb := sndE b g h3
          exact ⟨hb.pe, hb.pw _ _ _ rfl⟩
      have hw : PW X (.BoolOp .And (x :: y :: r) pos) (TT X.K Φ (.and a b)) := by
        refine PW.weak (pw_and (ha.pt h2) hb.2) fun σ H Q q => ?_
        obtain ⟨w, ρ, M, t, M', rfl, R, E, e1, k⟩ := q
        obtain ⟨d, M2, e2, e3⟩ := Res.bind_eq_ok e1
        obtain ⟨e4, rfl⟩ := opt_eq_ok e3
        obtain ⟨x0, M1, e5, e6⟩ := Res.bind_eq_ok e2
        cases q1 : tru (x0.look M1) with
        | none => rw [q1] at e6; cases e6
        | some s =>
          rw [q1] at e6
          refine ⟨w, ρ, M, s, M1, rfl, R, E, ?_, fun w1 X1 R1 => ?_⟩
          · show (ev Φ a ρ M).bind _ = _
            rw [e5]
            show opt (tru (x0.look M1)) M1 = _
            rw [q1] <;> rfl
          · cases s with
            | true =>
              rw [if_pos rfl]
              refine ⟨w1, ρ, M1, t, M2, rfl, R1, E.mono X1, ?_, fun w2 X2 R2 => k w2 (X1.trans X2) R2⟩
              show (ev Φ b ρ M1).bind _ = _
              rw [show ev Φ b ρ M1 = .ok d M2 from e6]
              show opt (tru (d.look M2)) M2 = _
              rw [e4] <;> rfl
            | false =>
              rw [if_neg Bool.false_ne_true]
              cases e6
              rw [q1] at e4
              cases e4
              exact k w1 X1 R1
      refine ⟨PE.weak (pe_andT ha.pe hb.1) fun σ H Q q => ?_, fun _ => hw.pt, fun _ _ _ z => by cases z; exact hw⟩
      obtain ⟨w, ρ, M, d, M', rfl, R, E, e1, k⟩ := q
      refine td1 (t := TD X.K Φ a) R E e1 fun x0 M1 w1 v1 X1 R1 p1 e2 => ?_
      cases q1 : tru (x0.look M1) with
      | none => rw [q1] at e2; cases e2
      | some s =>
        rw [q1] at e2
        refine ⟨s, truV_of R1 p1 q1, ?_⟩
        cases s with
        | true =>
          rw [if_pos rfl]
          exact ⟨w1, ρ, M1, d, M', rfl, R1, E.mono X1, e2, fun w2 v2 X2 R2 p2 => k w2 v2 (X1.trans X2) R2 p2⟩
        | false =>
          rw [if_neg Bool.false_ne_true]
          cases e2
          exact k w1 v1 X1 R1 p1
    · cases h
  | .or a b, X, sc, cf, e, g, h => by
    simp only [chkE] at h
    split at h
    · rename_i x y r pos
      simp only [Bool.and_eq_true] at h
      obtain ⟨⟨h1, h2⟩, h3⟩ := h
      have ha := sndE a g h1
      have hb : PE X (.BoolOp .Or (y :: r) pos) (TD X.K Φ b) ∧ PW X (.BoolOp .Or (y :: r) pos) (TT X.K Φ b) := by
        cases r with
        | nil =>
          simp only [Bool.and_eq_true] at h3
          have hb := sndE b g h3.1
          exact ⟨pe_one hb.pe, pw_or1 (hb.pt h3.2)⟩
        | cons z r =>
          have hb := sndE b g h3
          exact ⟨hb.pe, hb.pw _ _ _ rfl⟩
      have hw : PW X (.BoolOp .Or (x :: y :: r) pos) (TT X.K Φ (.or a b)) := by
        refine PW.weak (pw_or (ha.pt h2) hb.2) fun σ H Q q => ?_
        obtain ⟨w, ρ, M, t, M', rfl, R, E, e1, k⟩ := q
        obtain ⟨d, M2, e2, e3⟩ := Res.bind_eq_ok e1
        obtain ⟨e4, rfl⟩ := opt_eq_ok e3
        obtain ⟨x0, M1, e5, e6⟩ := Res.bind_eq_ok e2
        cases q1 : tru (x0.look M1) with
        | none => rw [q1] at e6; cases e6
        | some s =>
          rw [q1] at e6
          refine ⟨w, ρ, M, s, M1, rfl, R, E, ?_, fun w1 X1 R1 => ?_⟩
          · show (ev Φ a ρ M).bind _ = _
            rw [e5]
            show opt (tru (x0.look M1)) M1 = _
            rw [q1] <;> rfl
          · cases s with
            | false =>
              rw [if_neg Bool.false_ne_true]
              refine ⟨w1, ρ, M1, t, M2, rfl, R1, E.mono X1, ?_, fun w2 X2 R2 => k w2 (X1.trans X2) R2⟩
              show (ev Φ b ρ M1).bind _ = _
              rw [show ev Φ b ρ M1 = .ok d M2 from e6]
              show opt (tru (d.look M2)) M2 = _
              rw [e4] <;> rfl
            | true =>
              rw [if_pos rfl]
              cases e6
              rw [q1] at e4
              cases e4
              exact k w1 X1 R1
      refine ⟨PE.weak (pe_orT ha.pe hb.1) fun σ H Q q => ?_, fun _ => hw.pt, fun _ _ _ z => by cases z; exact hw⟩
      obtain ⟨w, ρ, M, d, M', rfl, R, E, e1, k⟩ := q
      refine td1 (t := TD X.K Φ a) R E e1 fun x0 M1 w1 v1 X1 R1 p1 e2 => ?_
      cases q1 : tru (x0.look M1) with
      | none => rw [q1] at e2; cases e2
      | some s =>
        rw [q1] at e2
        refine ⟨s, truV_of R1 p1 q1, ?_⟩
        cases s with
        | false =>
          rw [if_neg Bool.false_ne_true]
          exact ⟨w1, ρ, M1, d, M', rfl, R1, E.mono X1, e2, fun w2 v2 X2 R2 p2 => k w2 v2 (X1.trans X2) R2 p2⟩
        | true =>
          rw [if_pos rfl]
          cases e2
          exact k w1 v1 X1 R1 p1
    · cases h
  | .not a, X, sc, cf, e, g, h => by
    simp only [chkE] at h
    split at h
    · simp only [Bool.and_eq_true] at h
      have ha := sndE a g h.1
      refine ⟨PE.weak (pe_notT ha.pe) fun σ H Q q => ?_, fun _ => PT.weak (pt_not (ha.pt h.2)) fun σ H Q q => ?_, fun _ _ _ z => nomatch z⟩
      · obtain ⟨w, ρ, M, d, M', rfl, R, E, e1, k⟩ := q
        obtain ⟨b, M1, e2, e3⟩ := Res.bind_eq_ok e1
        cases e3
        obtain ⟨x, M1', e4, e5⟩ := Res.bind_eq_ok e2
        obtain ⟨e6, rfl⟩ := opt_eq_ok e5
        exact ⟨w, ρ, M, x, M1', rfl, R, E, e4, fun w1 v1 X1 R1 p1 => ⟨b, truV_of R1 p1 e6, k w1 _ X1 R1 (.bl _)⟩⟩
      · obtain ⟨w, ρ, M, t, M', rfl, R, E, e1, k⟩ := q
        obtain ⟨d, M1, e2, e3⟩ := Res.bind_eq_ok e1
        obtain ⟨e4, rfl⟩ := opt_eq_ok e3
        obtain ⟨b, M2, e5, e6⟩ := Res.bind_eq_ok e2
        cases e6
        cases e4
        exact ⟨w, ρ, M, b, M1, rfl, R, E, e5, fun w1 X1 R1 => k w1 X1 R1⟩
    · cases h
  | .ifx c a b, X, sc, cf, e, g, h => by
    simp only [chkE] at h
    split at h
    · simp only [Bool.and_eq_true] at h
      obtain ⟨⟨⟨h1, h2⟩, h3⟩, h4⟩ := h
      have hc := sndE c g h1
      have ha := sndE a g h3
      have hb := sndE b g h4
      refine .mk' (PE.weak (pe_ifExp (hc.pt h2) ha.pe hb.pe) fun σ H Q q => ?_) (fun _ _ _ z => nomatch z) (fun _ _ _ _ z => nomatch z) (fun _ _ z => nomatch z)
      obtain ⟨w, ρ, M, d, M', rfl, R, E, e1, k⟩ := q
      obtain ⟨t, M1, e2, e3⟩ := Res.bind_eq_ok e1
      refine ⟨w, ρ, M, t, M1, rfl, R, E, e2, fun w1 X1 R1 => ?_⟩
      cases t with
      | true =>
        rw [if_pos rfl] at e3 ⊢
        exact ⟨w1, ρ, M1, d, M', rfl, R1, E.mono X1, e3, fun w2 v2 X2 R2 p2 => k w2 v2 (X1.trans X2) R2 p2⟩
      | false =>
        rw [if_neg Bool.false_ne_true] at e3 ⊢
        exact ⟨w1, ρ, M1, d, M', rfl, R1, E.mono X1, e3, fun w2 v2 X2 R2 p2 => k w2 v2 (X1.trans X2) R2 p2⟩
    · cases h
  | .tup es, X, sc, cf, e, g, h => by
    simp only [chkE] at h
    split at h
    · refine .mk' (PE.weak (pe_tup (sndEs es g h)) fun σ H Q q => ?_) (fun _ _ _ z => nomatch z) (fun _ _ _ _ z => nomatch z) (fun _ _ z => nomatch z)
      obtain ⟨w, ρ, M, d, M', rfl, R, E, e1, k⟩ := q
      obtain ⟨ds, M1, e2, e3⟩ := Res.bind_eq_ok e1
      split at e3
      · rename_i hz
        cases e3
        exact ⟨w, ρ, M, ds, M', rfl, R, E, e2, fun w1 vs X1 R1 p1 => ⟨by rw [p1.length]; exact hz, fun p hp => mk_tup R1 p1 (fun w2 v2 X2 R2 p2 => k w2 v2 (X1.trans X2) R2 p2) hp⟩⟩
      · cases e3
    · cases h
  | .lst r es, X, sc, cf, e, g, h => by
    simp only [chkE] at h
    split at h
    · refine .mk' (PE.weak (pe_lst (sndEs es g h)) fun σ H Q q => ?_) (fun _ _ _ z => nomatch z) (fun _ _ _ _ z => nomatch z) (fun _ _ z => nomatch z)
      obtain ⟨w, ρ, M, d, M', rfl, R, E, e1, k⟩ := q
      obtain ⟨ds, M1, e2, e3⟩ := Res.bind_eq_ok e1
      split at e3
      · rename_i hz
        exact ⟨w, ρ, M, ds, M1, rfl, R, E, e2, fun w1 vs X1 R1 p1 => ⟨by rw [p1.length]; exact hz, fun p hp => mk_new R1 p1 e3 (fun w2 v2 X2 R2 p2 => k w2 v2 (X1.trans X2) R2 p2) hp⟩⟩
      · cases e3
    · cases h
  | .idx a b, X, sc, cf, e, g, h => by
    simp only [chkE] at h
    split at h
    · simp only [Bool.and_eq_true] at h
      obtain ⟨⟨h1, h2⟩, h3⟩ := h
      have ha := sndE a g h1
      have hb := sndE b g h2
      refine .mk' (PE.weak (pe_ix ixR' ha.pe hb.pe (plain_ix h3)) fun σ H Q q => ?_) (fun _ _ _ z => nomatch z) (fun _ _ _ _ z => nomatch z) (fun _ _ z => nomatch z)
      obtain ⟨w, ρ, M, d, M', rfl, R, E, e1, k⟩ := q
      refine td2 R E e1 fun x y M2 w2 v u X2 R2 p1 p2 e2 => ?_
      obtain ⟨e3, rfl⟩ := opt_eq_ok e2
      exact ⟨w2, M2, x, y, d, rfl, R2, p1, p2, e3, fun w3 v3 X3 R3 p3 => k w3 v3 (X2.trans X3) R3 p3⟩
    · cases h
  | .slc a lo hi, X, sc, cf, e, g, h => by
    simp only [chkE] at h
    split at h
    · rename_i x l hh _ _
      simp only [Bool.and_eq_true] at h
      obtain ⟨⟨h1, h2⟩, h3⟩ := h
      have ha := sndE a g h1
      have po : ∀ (c : C) (o : Option Expr), (match o with
          | none => isKN c
          | some y => chkE G c cf sc y && !isKN c) = true → (∀ y, o = some y → chkE G c cf sc y = true → PE X y (TD X.K Φ c)) → PO X o (fun σ H Q => ∃ w ρ M d p M', w.H = H ∧ RS X.K w M ∧ RE X.K w σ ρ ∧ ev Φ c ρ M = .ok d M' ∧ partC c d = some p ∧ ∀ w', Ext w w' → RS X.K w' M' → Q p w'.H) := fun c o hc ih => by
        cases o with
        | none =>
          have hc : isKN c = true := hc
          cases c <;> first | exact absurd hc Bool.false_ne_true | skip
          refine ⟨fun pins s σ H Q I q => ?_⟩
          obtain ⟨w, ρ, M, d, p, M', rfl, R, E, e1, e2, k⟩ := q
          cases e1
          cases e2
          exact po_none.run pins s σ w.H Q I (k w (Ext.refl w) R)
        | some y =>
          have hc : (chkE G c cf sc y && !isKN c) = true := hc
          simp only [Bool.and_eq_true, Bool.not_eq_true'] at hc
          have hp := ih y rfl hc.1
          refine ⟨fun pins s σ H Q I q => ?_⟩
          obtain ⟨w, ρ, M, d, p, M', rfl, R, E, e1, e2, k⟩ := q
          refine (po_some hp).run pins s σ w.H Q I ⟨w, ρ, M, d, M', rfl, R, E, e1, fun w1 v1 X1 R1 p1 => ?_⟩
          have hd : ∃ i, d = .int i ∧ p = some i := by
            cases c <;> cases d <;> first | exact absurd hc.2 (by decide) | (cases e2; exact ⟨_, rfl, rfl⟩) | cases e2
          obtain ⟨i, rfl, rfl⟩ := hd
          cases p1
          exact ⟨i, rfl, k w1 X1 R1⟩
      have hl := po lo l h2 fun y _ hy => (sndE lo g hy).pe
      have hu := po hi hh h3 fun y _ hy => (sndE hi g hy).pe
      refine .mk' (PE.weak (pe_slice slR' ha.pe hl hu) fun σ H Q q => ?_) (fun _ _ _ z => nomatch z) (fun _ _ _ _ z => nomatch z) (fun _ _ z => nomatch z)
      obtain ⟨w, ρ, M, d, M', rfl, R, E, e1, k⟩ := q
      refine td1 (t := TD X.K Φ a) R E e1 fun x0 M1 w1 v1 X1 R1 p1 e2 => ?_
      obtain ⟨d2, M2, e3, e4⟩ := Res.bind_eq_ok e2
      obtain ⟨d3, M3, e5, e6⟩ := Res.bind_eq_ok e4
      obtain ⟨e7, rfl⟩ := opt_eq_ok e6
      obtain ⟨q1, f1, e8⟩ := Option.bind_eq_some_iff.mp e7
      obtain ⟨q2, f2, e9⟩ := Option.bind_eq_some_iff.mp e8
      refine ⟨w1, ρ, M1, d2, q1, M2, rfl, R1, E.mono X1, e3, f1, fun w2 X2 R2 => ?_⟩
      refine ⟨w2, ρ, M2, d3, q2, M3, rfl, R2, (E.mono X1).mono X2, e5, f2, fun w3 X3 R3 => ?_⟩
      exact ⟨w3, M3, x0, d, rfl, R3, (p1.mono X2).mono X3, e9, fun w4 v4 X4 R4 p4 => k w4 v4 (((X1.trans X2).trans X3).trans X4) R4 p4⟩
    · cases h
  | .rev a, X, sc, cf, e, g, h => by
    simp only [chkE] at h
    split at h
    · have ha := sndE a g h
      refine .mk' (PE.weak (pe_revLT ha.pe) fun σ H Q q => ?_) (fun _ _ _ z => nomatch z) (fun _ _ _ _ z => nomatch z) (fun _ _ z => nomatch z)
      obtain ⟨w, ρ, M, d, M', rfl, R, E, e1, k⟩ := q
      refine td1 (t := TD X.K Φ a) R E e1 fun x M1 w1 v1 X1 R1 p1 e2 => ?_
      cases q : x.look M1 with
      | lst xs =>
        rw [q] at e2
        cases e2
        obtain ⟨b, vs, rfl, h1, h2⟩ := R1.lookL p1 q
        exact .inl ⟨b, vs, rfl, SqL.at_ h1, fun p hp => mk_new (r := false) R1 h2.reverse rfl (fun w2 v2 X2 R2 p2 => k w2 v2 (X1.trans X2) R2 p2) hp⟩
      | tup xs =>
        rw [q] at e2
        cases e2
        obtain ⟨b, vs, rfl, h1, h2⟩ := R1.lookT p1 q
        exact .inr ⟨b, vs, rfl, SqT.at_ h1, fun p hp => mk_tup R1 h2.reverse (fun w2 v2 X2 R2 p2 => k w2 v2 (X1.trans X2) R2 p2) hp⟩
      | _ => rw [q] at e2; cases e2
    · cases h
  | .call f k0 es, X, sc, cf, e, g, h => by
    simp only [chkE] at h
    split at h
    · rename_i x _ y r _
      simp only [Bool.and_eq_true, decide_eq_true_eq] at h
      obtain ⟨⟨⟨rfl, h2⟩, h3⟩, h4⟩ := h
      obtain ⟨hg, hd⟩ := gl_of g h2
      obtain ⟨ps, a, fd, hl, hm, hk, hb, _, F⟩ := fns_of g h3
      have ns := chkEs_ns h4
      have ns' : (notStar y && allNS r) = true := ns
      rw [Bool.and_eq_true] at ns'
      refine .mk' (PE.weak (pe_callG F g.gu g.room hg hm hk hb passL (sndEs es g h4) hd (star_eq ns'.1) (star_plain ns'.2)) fun σ H Q q => ?_) (fun _ _ _ z => nomatch z) (fun _ _ _ _ z => nomatch z) (fun _ _ z => nomatch z)
      obtain ⟨w, ρ, M, d, M', rfl, R, E, e1, k⟩ := q
      obtain ⟨ds, M1, e2, e3⟩ := Res.bind_eq_ok e1
      refine ⟨w, ρ, M, ds, M1, rfl, R, E, e2, fun w1 vs X1 R1 p1 => ?_⟩
      show spD X.K Φ x ps.length (vs ++ []) w1.H Q E0
      rw [List.append_nil]
      refine callR_sp R1 p1 e3 ?_ (fun w2 v2 X2 R2 p2 => k w2 v2 (X1.trans X2) R2 p2) _
      rw [hl, p1.length]
      exact evs_len h4 e2
    · rename_i x _ _
      simp only [Bool.and_eq_true, decide_eq_true_eq] at h
      obtain ⟨⟨⟨rfl, h2⟩, h3⟩, h4⟩ := h
      obtain ⟨hg, hd⟩ := gl_of g h2
      obtain ⟨ps, a, fd, hl, hm, hk, hb, _, F⟩ := fns_of g h3
      refine .mk' (PE.weak (pe_callG0 F g.gu g.room hg hm hk hb passL hd) fun σ H Q q => ?_) (fun _ _ _ z => nomatch z) (fun _ _ _ _ z => nomatch z) (fun _ _ z => nomatch z)
      obtain ⟨w, ρ, M, d, M', rfl, R, E, e1, k⟩ := q
      obtain ⟨ds, M1, e2, e3⟩ := Res.bind_eq_ok e1
      have hn : es = .nil := by cases es with
        | nil => rfl
        | cons c r => simp [chkEs] at h4
      subst hn
      cases e2
      exact callR_sp R .nil e3 (by rw [hl]; rfl) k E0
    · cases h
  | .callK f k0 es ws p, X, sc, cf, e, g, h => by
    simp only [chkE] at h
    split at h
    · rename_i x q1 r kws q2
      simp only [Bool.and_eq_true, decide_eq_true_eq] at h
      obtain ⟨⟨⟨⟨⟨rfl, h2⟩, h3⟩, h4⟩, h5⟩, h6⟩ := h
      obtain ⟨hg, hd⟩ := gl_of g h2
      obtain ⟨ps, a, fd, hl, hm, hk, _, hkw, F⟩ := fns_of g h3
      have hb := hkw _ _ _ h4
      have ns := chkEs_ns h5
      have fin : ∀ σ H Q, TD X.K Φ (.callK x k0 es ws p) σ H Q → TDs X.K Φ es σ H fun vs H1 => TDs X.K Φ ws σ H1 fun zs H2 => vs.length = r.length ∧ zs.length = (kwN kws).length ∧ spD X.K Φ x ps.length (perm p vs zs) H2 Q E0 := fun σ H Q q => by
        obtain ⟨w, ρ, M, d, M', rfl, R, E, e1, k⟩ := q
        obtain ⟨ds, M1, e2, e3⟩ := Res.bind_eq_ok e1
        obtain ⟨zs, M2, e4, e5⟩ := Res.bind_eq_ok e3
        refine ⟨w, ρ, M, ds, M1, rfl, R, E, e2, fun w1 vs X1 R1 p1 => ⟨w1, ρ, M1, zs, M2, rfl, R1, E.mono X1, e4, fun w2 us X2 R2 p2 => ⟨by rw [p1.length]; exact evs_len h5 e2, by rw [p2.length]; exact evs_lenK h6 e4, ?_⟩⟩⟩
        split at e5
        · rename_i hpl
          have pp := (p1.mono X2).permR p2 p
          exact callR_sp R2 pp e5 (by rw [pp.length, hl]; exact hpl) (fun w3 v3 X3 R3 p3 => k w3 v3 ((X1.trans X2).trans X3) R3 p3) _
        · cases e5
      cases r with
      | nil =>
        have hn : es = .nil := by cases es with
          | nil => rfl
          | cons c r => simp [chkEs] at h5
        obtain ⟨k1, k2, k3⟩ := kw_all (env := X.env) (pos := q2) h6
        refine .mk' (PE.weak (pe_callNG0 F g.gu g.room hg hm hk hb passL (sndKs ws g h6) k1 k2 hd (by rw [k3] <;> rfl)) fun σ H Q q => ?_) (fun _ _ _ z => nomatch z) (fun _ _ _ _ z => nomatch z) (fun _ _ z => nomatch z)
        subst hn
        have z := fin σ H Q q
        obtain ⟨w, ρ, M, ds, M', rfl, R, E, e1, k⟩ := z
        cases e1
        exact k w [] (Ext.refl w) R .nil
      | cons y r =>
        have ns' : (notStar y && allNS r) = true := ns
        rw [Bool.and_eq_true] at ns'
        obtain ⟨k1, k2, k3⟩ := kw_all (env := X.env) (pos := q2) h6
        exact .mk' (PE.weak (pe_callNG F g.gu g.room hg hm hk hb passL (sndEs es g h5) (sndKs ws g h6) k1 k2 hd (star_eq ns'.1) (by rw [star_plain ns, k3] <;> rfl)) fin) (fun _ _ _ z => nomatch z) (fun _ _ _ _ z => nomatch z) (fun _ _ z => nomatch z)
    · cases h
  | .blt b r es, X, sc, cf, e, g, h => by
    simp only [chkE] at h
    split at h
    · rename_i x p1 y rr p2
      simp only [Bool.and_eq_true, decide_eq_true_eq] at h
      obtain ⟨⟨rfl, h2⟩, h3⟩ := h
      obtain ⟨hg, hm, hn, hd⟩ := blt_of g h2
      have ns := chkEs_ns h3
      have ns' : (notStar y && allNS rr) = true := ns
      rw [Bool.and_eq_true] at ns'
      have hp : PE X (.Call (.Name b.nm p1) (y :: rr) [] p2) (tCB (rBl X.K b r) (TDs X.K Φ es)) := by
        have hc := callB' (X := X) g.calm b r
        have hv := boot_of b
        unfold BI.val at hc hv
        cases hb : b.ty with
        | true =>
          rw [hb, if_pos rfl] at hc hv
          exact pe_callTy hc hg hm hv (sndEs es g h3) hn hd (star_eq ns'.1) (star_plain ns'.2)
        | false =>
          rw [hb, if_neg Bool.false_ne_true] at hc hv
          exact pe_callB hc hg hm hv (sndEs es g h3) hn hd (star_eq ns'.1) (star_plain ns'.2)
      refine .mk' (PE.weak hp fun σ H Q q => ?_) (fun _ _ _ z => nomatch z) (fun _ _ _ _ z => nomatch z) (fun _ _ z => nomatch z)
      obtain ⟨w, ρ, M, d, M', rfl, R, E, e1, k⟩ := q
      obtain ⟨ds, M1, e2, e3⟩ := Res.bind_eq_ok e1
      exact ⟨w, ρ, M, ds, M1, rfl, R, E, e2, fun w1 vs X1 R1 p1 => ⟨w1, M1, ds, d, M', rfl, R1, p1, e3, fun w2 v2 X2 R2 p2 => k w2 v2 (X1.trans X2) R2 p2⟩⟩
    · cases h
  | .lrev r a, X, sc, cf, e, g, h => by
    simp only [chkE] at h
    split at h
    · simp only [Bool.and_eq_true, decide_eq_true_eq] at h
      obtain ⟨⟨⟨⟨⟨rfl, rfl⟩, h2⟩, h3⟩, h4⟩, h5⟩ := h
      obtain ⟨hg, hm, _, _⟩ := blt_of g h2
      obtain ⟨hg2, hm2, _, _⟩ := blt_of g h3
      have ha := sndE a g h4
      refine .mk' (PE.weak (pe_listRev g.calm hg hm hg2 hm2 ha.pe (star_eq h5) (star_eq rfl)) fun σ H Q q => ?_) (fun _ _ _ z => nomatch z) (fun _ _ _ _ z => nomatch z) (fun _ _ z => nomatch z)
      obtain ⟨w, ρ, M, d, M', rfl, R, E, e1, k⟩ := q
      refine td1 (t := TD X.K Φ a) R E e1 fun x M1 w1 v1 X1 R1 p1 e2 => ?_
      cases q : x.look M1 with
      | lst xs =>
        rw [q] at e2
        obtain ⟨b, vs, rfl, h1, h2⟩ := R1.lookL p1 q
        exact ⟨b, vs, rfl, SqL.at_ h1, fun p hp => mk_new R1 h2.reverse e2 (fun w2 v2 X2 R2 p2 => k w2 v2 (X1.trans X2) R2 p2) hp⟩
      | _ => rw [q] at e2; cases e2
    · cases h
  | .sset r a, X, sc, cf, e, g, h => by
    simp only [chkE] at h
    split at h
    · simp only [Bool.and_eq_true, decide_eq_true_eq] at h
      obtain ⟨⟨⟨⟨⟨rfl, rfl⟩, h2⟩, h3⟩, h4⟩, h5⟩ := h
      obtain ⟨hg, hm, _, _⟩ := blt_of g h2
      obtain ⟨hg2, hm2, hn2, hd2⟩ := blt_of g h3
      have ha := sndE a g h4
      have hu : X.A.units + 64 < cLine := g.room.units
      refine .mk' (PE.weak (pe_callB (cr_sortedT g.calm) hg hm PyProof.Rows.boot_sorted (pa_cons (pe_callTy (cr_setOfT g.calm hu) hg2 hm2 PyProof.Rows.boot_set (pa_cons ha.pe pa_nil (star_eq h5)) hn2 hd2 (star_eq h5) rfl) pa_nil)) fun σ H Q q => ?_) (fun _ _ _ z => nomatch z) (fun _ _ _ _ z => nomatch z) (fun _ _ z => nomatch z)
      obtain ⟨w, ρ, M, d, M', rfl, R, E, e1, k⟩ := q
      refine td1 (t := TD X.K Φ a) R E e1 fun x M1 w1 v1 X1 R1 p1 e2 => ?_
      cases q : x.look M1 with
      | lst xs =>
        rw [q] at e2
        obtain ⟨b, vs, rfl, h1, h2⟩ := R1.lookL p1 q
        have e2' : (match ssetD xs with
          | some ys => mkL r ys M1
          | none => .no) = .ok d M' := e2
        clear e2
        split at e2'
        · rename_i ys e3
          unfold ssetD at e3
          split at e3
          · rename_i hlen
            obtain ⟨cs, e4, rfl⟩ := Option.map_eq_some_iff.mp e3
            obtain ⟨ks, rfl, rfl, hk⟩ := pairs_ks h2 e4
            refine ⟨b, ks, rfl, SqL.at_ h1, fun p hp => SqT.at_ (hk p hp).1, ?_, fun S L hS hL hL2 => ?_⟩
            · have := h2.length
              rw [List.length_map] at this
              omega
            · obtain ⟨X2, R2⟩ := R1.fresh (o := SetTO X.prog X.w S L) hS
              have ne : ∀ p ∈ ks, p.1 ≠ S := fun p hp eS => by rw [← eS, (hk p hp).1] at hS; cases hS
              refine ⟨S, L, 2, 64, rfl, upd_same, fun p hp => SqT.at_ ?_, by omega, fun p hp => ⟨(hk p (hL p hp)).2.1, (hk p (hL p hp)).2.2.1⟩, fun L' q pm nd _ pw hq => ?_⟩
              · exact X2.hard _ _ (hk p (hL p hp)).1 rfl
              · have mem' : ∀ p ∈ L', p ∈ ks := fun p hp => hL p (pm.mem_iff.mp hp)
                have st : (L'.map codeL).Pairwise (· < ·) := by
                  rw [List.pairwise_map]
                  have nd' : L'.Pairwise fun p q => p.2 ≠ q.2 := List.pairwise_map.mp nd
                  refine (List.Pairwise.and pw nd').imp_of_mem fun {p q} hp hq hh => ?_
                  rcases Int.lt_or_eq_of_le hh.1 with g1 | g1
                  · exact g1
                  · obtain ⟨_, a2, a3, _⟩ := hk p (mem' p hp)
                    obtain ⟨_, b2, b3, _⟩ := hk q (mem' q hq)
                    exact absurd (code_inj a2 b2 a3 b3 g1) hh.2
                have el : L'.map codeL = srtU (ks.map codeL) := sorted_uniq st (srtU_srt _) fun c => by
                  rw [srtU_mem, List.mem_map, List.mem_map]
                  refine ⟨fun ⟨p, hp, e⟩ => ⟨p, mem' p hp, e⟩, fun ⟨p, hp, e⟩ => ?_⟩
                  obtain ⟨p', hp', e'⟩ := List.mem_map.mp (hL2 p hp)
                  exact ⟨p', pm.mem_iff.mpr hp', by rw [← e]; unfold codeL; rw [e']⟩
                have rr : Rps X.K ⟨w1.F, w1.ad, upd w1.H S (SetTO X.prog X.w S L)⟩ (L'.map fun p => V.ref p.1) ((srtU (ks.map codeL)).map unC) := by
                  rw [← el]
                  exact rps_of fun p hp => (hk p (mem' p hp)).2.2.2.mono X2
                exact mk_new R2 rr e2' (fun w2 v2 X3 R3 p3 => k w2 v2 ((X1.trans X2).trans X3) R3 p3) hq
          · cases e3
        · cases e2'
      | _ => rw [q] at e2; cases e2
    · cases h
  | .mth m o es, X, sc, cf, e, g, h => by
    simp only [chkE] at h
    split at h
    · rename_i x y apos r cpos
      simp only [Bool.and_eq_true, decide_eq_true_eq] at h
      obtain ⟨⟨⟨⟨⟨rfl, h2⟩, h3⟩, h4⟩, h5⟩, h6⟩ := h
      have ho := sndE o g h5
      have ns := chkEs_ns h6
      have tyL : ∀ {w1 : Wd} {M1 : Store} {v1 : V} {d0 : D}, RS X.K w1 M1 → Rp X.K w1 v1 d0 → (∃ i xs, d0 = .ref i ∧ M1[i]? = some (.lst xs)) → tyV X.K "list" v1 w1.H := fun {w1 M1 v1 d0} R1 p1 hi => by
        obtain ⟨i, xs, rfl, q⟩ := hi
        cases p1 with
        | @ref a _ ha =>
        obtain ⟨vs, e1, _⟩ := R1.obj i _ a q ha
        exact .inl ⟨rfl, vs, SqL.at_ e1⟩
      cases r with
      | nil =>
        have hn : es = .nil := by cases es with
          | nil => rfl
          | cons c r => simp [chkEs] at h6
        subst hn
        refine .mk' (PE.weak (pe_bm0 PySem.F.plainAttrs_list (slot_mt m) (type_mt m) (mtR' m) ho.pe (attr_base h2) h3) fun σ H Q q => ?_) (fun _ _ _ z => nomatch z) (fun _ _ _ _ z => nomatch z) (fun _ _ z => nomatch z)
        obtain ⟨w, ρ, M, d, M', rfl, R, E, e1, k⟩ := q
        refine td1 (t := TD X.K Φ o) R E e1 fun x0 M1 w1 v1 X1 R1 p1 e2 => ?_
        split at e2
        · rename_i hi
          obtain ⟨ds, M2, e3, e4⟩ := Res.bind_eq_ok e2
          cases e3
          exact ⟨tyL R1 p1 (isL_of hi), w1, M1, x0, [], d, M', rfl, R1, p1, .nil, e4, fun w2 v2 X2 R2 p2 => k w2 v2 (X1.trans X2) R2 p2⟩
        · cases e2
      | cons y r =>
        have ns' : (notStar y && allNS r) = true := ns
        rw [Bool.and_eq_true] at ns'
        have few : ((backTo cpos (starEach (y :: r) X.env)).all (fun x => !x.1) && (backToKw cpos (keywordEach [] X.env)).all (fun x => x.1.isSome)
      && decide ((y :: r).length + ([] : List Keyword).length + (if ([] : List Keyword).isEmpty then 0 else 1) < 30)) = true := by
          rw [star_few ns]
          show decide ((y :: r).length + 0 + 0 < 30) = true
          exact decide_eq_true (by omega)
        refine .mk' (PE.weak (pe_bm PySem.F.plainAttrs_list (slot_mt m) (type_mt m) (mtR' m) ho.pe (sndEs es g h6) (attr_base h2) few h3 (star_eq ns'.1) (star_plain ns'.2)) fun σ H Q q => ?_) (fun _ _ _ z => nomatch z) (fun _ _ _ _ z => nomatch z) (fun _ _ z => nomatch z)
        obtain ⟨w, ρ, M, d, M', rfl, R, E, e1, k⟩ := q
        refine td1 (t := TD X.K Φ o) R E e1 fun x0 M1 w1 v1 X1 R1 p1 e2 => ?_
        split at e2
        · rename_i hi
          obtain ⟨ds, M2, e3, e4⟩ := Res.bind_eq_ok e2
          exact ⟨tyL R1 p1 (isL_of hi), w1, ρ, M1, ds, M2, rfl, R1, E.mono X1, e3, fun w2 vs X2 R2 p2 => ⟨w2, M2, x0, ds, d, M', rfl, R2, p1.mono X2, p2, e4, fun w3 v3 X3 R3 p3 => k w3 v3 ((X1.trans X2).trans X3) R3 p3⟩⟩
        · cases e2
    · cases h
  | .comp r elt tg it cond, X, sc, cf, e, g, h => by
    simp only [chkE] at h
    split at h
    · rename_i x t i ifs a scope q2
      simp only [Bool.and_eq_true, decide_eq_true_eq] at h
      obtain ⟨⟨⟨⟨⟨⟨rfl, h1⟩, h2⟩, h3⟩, h4⟩, h5⟩, h6⟩ := h
      have ok := blkOk_by h2
      have hI := sndI it g h1
      have okX : BlkOk X.N X.env.scope scope (ownT t tg) := by rw [g.N, g.scp]; exact ok
      have hs := ownT_slots h4
      have blk : ∀ (s : Shared) (H : Hp) (C0 : Addr) (cl : List (Str × Addr)) (fp : List Addr), Gd (X.blk s H scope (compEnvC scope cl C0 X.env) fp) G (relS scope sc) (fun y => scope.names.lookup y == some .cell) Φ n := fun s H C0 cl fp => g.blk s H scope C0 cl fp ok.kind
      have fin : ∀ (tt : L2.TT), (∀ σ' H Qb, TT X.K Φ cond σ' H Qb → tt σ' H Qb) → (∀ (s : Shared) (H : Hp) (C0 : Addr) (cl : List (Str × Addr)) (fp : List Addr), PTs (X.blk s H scope (compEnvC scope cl C0 X.env) fp) ifs tt) → PE X (.ListComp x [⟨t, i, ifs, 0⟩] scope q2) (TD X.K Φ (.comp r elt tg it cond)) := fun tt htt ht => by
        refine PE.weak (pe_lc g.calm g.nd hI okX (g := TDG X.K tg) (tt := tt) (te := TD X.K Φ elt) (fun s H C0 cl fp => pg_of (blk s H C0 cl fp) h4) ht (fun s H C0 cl fp => (sndE elt (blk s H C0 cl fp) h5).pe) (folded_eq h3)) fun σ H Q q => ?_
        obtain ⟨w, ρ, M, d, M', rfl, R, E, e1, k⟩ := q
        obtain ⟨xs, M1, e2, e3⟩ := Res.bind_eq_ok e1
        obtain ⟨ys, M2, e4, e5⟩ := Res.bind_eq_ok e3
        refine ⟨w, ρ, M, xs, M1, rfl, R, E, e2, fun w1 J X1 R1 hJ => ?_⟩
        rw [hs]
        exact comp_read htt R1 (E.mono X1) e4 e5 (fun w2 v2 X2 R2 p2 => k w2 v2 (X1.trans X2) R2 p2) hJ
      refine .mk' ?_ (fun _ _ _ z => nomatch z) (fun _ _ _ _ z => nomatch z) (fun _ _ z => nomatch z)
      split at h6
      · split at h6
        · refine fin tYes (fun σ' H Qb q => ?_) (fun _ _ _ _ _ => pts_nil)
          obtain ⟨w, ρ, M, b, M', rfl, R, E, e1, k⟩ := q
          cases e1
          exact k w (Ext.refl w) R
        · cases h6
      · rename_i y
        rw [Bool.and_eq_true] at h6
        exact fin (TT X.K Φ cond) (fun _ _ _ q => q) (fun s H C0 cl fp => pts_one ((sndE cond (blk s H C0 cl fp) h6.1).pt h6.2))
      · cases h6
    · cases h
  | .frz a, X, sc, cf, e, g, h => by
    simp only [chkE] at h
    split at h
    · have ha := sndE a g h
      refine .mk' (PE.weak ha.pe fun σ H Q q => ?_) (fun _ _ _ z => nomatch z) (fun _ _ _ _ z => nomatch z) (fun _ _ z => nomatch z)
      obtain ⟨w, ρ, M, d, M', rfl, R, E, e1, k⟩ := q
      refine td1 (t := TD X.K Φ a) R E e1 fun x M1 w1 v1 X1 R1 p1 e2 => ?_
      cases x with
      | ref i =>
        cases p1 with
        | @ref ad _ had =>
        have e3 : (match M1[i]? with
          | some (.lst xs) => Res.ok (D.lst xs) (M1.set i .dead)
          | _ => .no) = .ok d M' := e2
        split at e3
        · rename_i xs q
          cases e3
          obtain ⟨w', f1, f2, f3, f4⟩ := R1.freeze q had
          rw [← f1]
          exact k w' _ (X1.trans f2) f3 f4
        · cases e3
      | _ => cases e2; exact k w1 v1 X1 R1 p1
    · cases h
  | .emp, X, sc, cf, e, g, h => by
    simp only [chkE] at h
    split at h
    · refine .mk' (PE.weak pe_dnewK fun σ H Q q => ?_) (fun _ _ _ z => nomatch z) (fun _ _ _ _ z => nomatch z) (fun _ _ z => nomatch z)
      obtain ⟨w, ρ, M, d, M', rfl, R, E, e1, k⟩ := q
      cases e1
      intro p hp
      obtain ⟨w', f1, f2, f3, f4⟩ := R.freshE hp
      rw [← f1]
      exact k w' _ f2 f3 f4
    · cases h
  | .rpr a, X, sc, cf, e, g, h => by
    simp only [chkE] at h
    split at h
    · simp only [Bool.and_eq_true, decide_eq_true_eq] at h
      obtain ⟨⟨⟨rfl, h1⟩, h2⟩, h3⟩ := h
      obtain ⟨hg, hm, hn, hd⟩ := blt_of g h1
      have ha := sndE a g h2
      have hu : X.A.units + 200 < cLine := by have := g.room.un; omega
      refine .mk' (PE.weak (pe_callB (cr_repr g.gu hu) hg hm (by decide +kernel) (pa_cons ha.pe pa_nil (star_eq h3)) hn hd (star_eq h3) rfl) fun σ H Q q => ?_) (fun _ _ _ z => nomatch z) (fun _ _ _ _ z => nomatch z) (fun _ _ z => nomatch z)
      obtain ⟨w, ρ, M, d, M', rfl, R, E, e1, k⟩ := q
      refine td1 (t := TD X.K Φ a) R E e1 fun x M1 w1 v1 X1 R1 p1 e2 => ?_
      obtain ⟨e3, rfl⟩ := opt_eq_ok e2
      obtain ⟨t, e4, rfl⟩ := Option.map_eq_some_iff.mp e3
      exact rpr_read R1 p1 e4 (k w1 _ X1 R1 (.str t))
    · cases h
  | .isi a t, X, sc, cf, e, g, h => by
    simp only [chkE] at h
    split at h
    · rename_i x q1 y z q2 q3
      simp only [Bool.and_eq_true, decide_eq_true_eq] at h
      obtain ⟨⟨⟨⟨⟨rfl, rfl⟩, h2⟩, h3⟩, h4⟩, h5⟩ := h
      obtain ⟨hg, hm, hn, hd⟩ := blt_of g h2
      obtain ⟨hg2, hm2, hn2, hd2⟩ := blt_of g h3
      have ha := sndE a g h4
      have hz : PE X (.Name t.nm q2) (tC (.ty t.id)) := pe_bltn hg2 hm2 (boot_tn t) rfl hn2 hd2
      refine .mk' (PE.weak (pe_callB call_isi hg hm (by decide +kernel) (pa_cons ha.pe (pa_cons hz pa_nil (star_eq rfl)) (star_eq h5)) hn hd (star_eq h5) (by rw [star_eq rfl] <;> rfl)) fun σ H Q q => ?_) (fun _ _ _ z => nomatch z) (fun _ _ _ _ z => nomatch z) (fun _ _ z => nomatch z)
      obtain ⟨w, ρ, M, d, M', rfl, R, E, e1, k⟩ := q
      refine td1 (t := TD X.K Φ a) R E e1 fun x0 M1 w1 v1 X1 R1 p1 e2 => ?_
      obtain ⟨e3, rfl⟩ := opt_eq_ok e2
      obtain ⟨b, e4, rfl⟩ := Option.map_eq_some_iff.mp e3
      obtain ⟨u, t1, t2⟩ := isi_read p1 e4
      exact ⟨v1, .ty t.id, u, _, b, rfl, .ty _, t1, t2, k w1 _ X1 R1 (.bl _)⟩
    · cases h
theorem sndEs : ∀ (cs : Cs) {X : Cx} {sc : Scope} {cf : Str → Bool} {es : List Expr}, Gd X G sc cf Φ n → chkEs G cs cf sc es = true → PA X es (TDs X.K Φ cs)
  | .nil, X, sc, cf, es, g, h => by
    cases es with
    | nil =>
      refine PA.weak pa_nil fun σ H Q q => ?_
      obtain ⟨w, ρ, M, ds, M', rfl, R, E, e1, k⟩ := q
      cases e1
      exact k w [] (Ext.refl w) R .nil
    | cons x xs => simp [chkEs] at h
  | .cons c r, X, sc, cf, es, g, h => by
    cases es with
    | nil => simp [chkEs] at h
    | cons x xs =>
      simp only [chkEs, Bool.and_eq_true] at h
      obtain ⟨⟨h1, h2⟩, h3⟩ := h
      have hc := sndE c g h2
      refine PA.weak (pa_cons hc.pe (sndEs r g h3) (star_eq h1)) fun σ H Q q => ?_
      obtain ⟨w, ρ, M, ds, M', rfl, R, E, e1, k⟩ := q
      refine td1 (t := TD X.K Φ c) R E e1 fun d M1 w1 v1 X1 R1 p1 e2 => ?_
      obtain ⟨ds', M2, e3, e4⟩ := Res.bind_eq_ok e2
      cases e4
      exact ⟨w1, ρ, M1, ds', M', rfl, R1, E.mono X1, e3, fun w2 vs X2 R2 p2 => k w2 _ (X1.trans X2) R2 (.cons (p1.mono X2) p2)⟩
theorem sndKs : ∀ (cs : Cs) {X : Cx} {sc : Scope} {cf : Str → Bool} {es : List Keyword}, Gd X G sc cf Φ n → chkKs G cs cf sc es = true → PK X es (TDs X.K Φ cs)
  | .nil, X, sc, cf, es, g, h => by
    cases es with
    | nil =>
      refine PK.weak pk_nil fun σ H Q q => ?_
      obtain ⟨w, ρ, M, ds, M', rfl, R, E, e1, k⟩ := q
      cases e1
      exact k w [] (Ext.refl w) R .nil
    | cons x xs => simp [chkKs] at h
  | .cons c r, X, sc, cf, es, g, h => by
    cases es with
    | nil => simp [chkKs] at h
    | cons x xs =>
      obtain ⟨nm, x, pos⟩ := x
      cases nm with
      | none => simp [chkKs] at h
      | some nm =>
      simp only [chkKs, Bool.and_eq_true] at h
      obtain ⟨h2, h3⟩ := h
      have hc := sndE c g h2
      refine PK.weak (pk_cons hc.pe (sndKs r g h3)) fun σ H Q q => ?_
      obtain ⟨w, ρ, M, ds, M', rfl, R, E, e1, k⟩ := q
      refine td1 (t := TD X.K Φ c) R E e1 fun d M1 w1 v1 X1 R1 p1 e2 => ?_
      obtain ⟨ds', M2, e3, e4⟩ := Res.bind_eq_ok e2
      cases e4
      exact ⟨w1, ρ, M1, ds', M', rfl, R1, E.mono X1, e3, fun w2 vs X2 R2 p2 => k w2 _ (X1.trans X2) R2 (.cons (p1.mono X2) p2)⟩
theorem sndI : ∀ (it : It) {X : Cx} {sc : Scope} {cf : Str → Bool} {t e : Expr}, Gd X G sc cf Φ n → chkI G it cf sc t e = true → SndI X Φ t e it
  | .seq c, X, sc, cf, t, e, g, h => by
    have hc := sndE c g (show chkE G c cf sc e = true from h)
    -- the walked thing is a list or a tuple
    refine ⟨fun pins s σ H R0 I q => ?_⟩
    obtain ⟨w, ρ, M, xs, M', rfl, R, E, e1, k⟩ := q
    obtain ⟨d, M1, e2, e3⟩ := Res.bind_eq_ok e1
    obtain ⟨e4, rfl⟩ := opt_eq_ok e3
    cases d with
    | lst ds =>
      have e5 : ds = xs := Option.some.inj e4
      subst e5
      refine (pi_list hc.pe).run pins s σ w.H R0 I ⟨w, ρ, M, _, M1, rfl, R, E, e2, fun w1 v1 X1 R1 p1 => ?_⟩
      cases p1 with
      | @lst a vs _ f h1 h2 =>
      exact ⟨a, rfl, ⟨vs, SqL.at_ h1⟩, k w1 _ X1 R1 (itl_read f h1 h2)⟩
    | tup ds =>
      have e5 : ds = xs := Option.some.inj e4
      subst e5
      refine (pi_tup hc.pe).run pins s σ w.H R0 I ⟨w, ρ, M, _, M1, rfl, R, E, e2, fun w1 v1 X1 R1 p1 => ?_⟩
      cases p1 with
      | @tup a vs _ h1 h2 =>
      exact ⟨a, rfl, ⟨vs, SqT.at_ h1⟩, k w1 _ X1 R1 (itt_read h1 h2)⟩
    | _ => cases e4
  | .rng lo hi, X, sc, cf, t, e, g, h => by
    simp only [chkI] at h
    split at h
    · simp only [Bool.and_eq_true, decide_eq_true_eq] at h
      obtain ⟨⟨⟨⟨rfl, h1⟩, h2⟩, h3⟩, h4⟩ := h
      obtain ⟨hg, hm, _, _⟩ := blt_of g h1
      have hh := sndE hi g h3
      refine PI.weak (pi_range1 hg hm (pa_cons hh.pe pa_nil (star_eq h4)) (star_eq h4)) fun σ H R0 q => ?_
      obtain ⟨w, ρ, M, xs, M', rfl, R, E, e1, k⟩ := q
      split at h2
      · refine td1 (t := TD X.K Φ hi) R E e1 fun d M2 w1 v1 X1 R1 p1 e4 => ?_
        cases d with
        | int j =>
          cases p1
          have e5 : (if -(2 ^ 62) ≤ (0 : Int) ∧ (0 : Int) < 2 ^ 62 ∧ -(2 ^ 62) ≤ j ∧ j < 2 ^ 62 then Res.ok (rngL 0 j) M2 else .no) = .ok xs M' := e4
          split at e5
          · rename_i hz
            cases e5
            have z := k w1 (Itr 0 (j - 0).toNat) X1 R1 itr_read
            rw [Int.sub_zero] at z
            exact ⟨j, rfl, hz.2.2.1, hz.2.2.2, z⟩
          · cases e5
        | _ => cases e4
      · cases h2
    · simp only [Bool.and_eq_true, decide_eq_true_eq] at h
      obtain ⟨⟨⟨⟨⟨rfl, h1⟩, h2⟩, h3⟩, h4⟩, h5⟩ := h
      obtain ⟨hg, hm, _, _⟩ := blt_of g h1
      have hl := sndE lo g h2
      have hh := sndE hi g h3
      refine PI.weak (pi_range2 hg hm (pa_cons hl.pe (pa_cons hh.pe pa_nil (star_eq h5)) (star_eq h4)) (by rw [star_eq h4, star_eq h5] <;> rfl) (star_eq h5)) fun σ H R0 q => ?_
      obtain ⟨w, ρ, M, xs, M', rfl, R, E, e1, k⟩ := q
      refine td2 R E e1 fun x y M2 w2 v u X2 R2 p1 p2 e2 => ?_
      cases x with
      | int i => cases y with
        | int j =>
          cases p1; cases p2
          have e5 : (if -(2 ^ 62) ≤ i ∧ i < 2 ^ 62 ∧ -(2 ^ 62) ≤ j ∧ j < 2 ^ 62 then Res.ok (rngL i j) M2 else .no) = .ok xs M' := e2
          split at e5
          · rename_i hz
            cases e5
            exact ⟨i, j, rfl, hz, k w2 _ X2 R2 itr_read⟩
          · cases e5
        | _ => cases e2
      | _ => cases e2
    · cases h
  | .zip a b, X, sc, cf, t, e, g, h => by
    simp only [chkI] at h
    split at h
    · simp only [Bool.and_eq_true, decide_eq_true_eq] at h
      obtain ⟨⟨⟨⟨⟨⟨rfl, h1⟩, h2⟩, h3⟩, h4⟩, h5⟩, h6⟩ := h
      obtain ⟨hg, hm, _, _⟩ := blt_of g h1
      have ha := sndE a g h2
      have hb := sndE b g h3
      cases t <;> first | exact absurd h6 Bool.false_ne_true | skip
      refine PI.weak (pi_zipA hg hm (pa_cons ha.pe (pa_cons hb.pe pa_nil (star_eq h5)) (star_eq h4)) (star_eq h4) (by rw [star_eq h5] <;> rfl)) fun σ H R0 q => ?_
      obtain ⟨w, ρ, M, xs, M', rfl, R, E, e1, k⟩ := q
      refine td2 R E e1 fun x y M2 w2 v u X2 R2 p1 p2 e2 => ?_
      cases x with
      | tup ds => cases y with
        | tup es =>
          cases p1 with
          | @tup ad vs _ h1 h2 =>
          cases p2 with
          | @tup bd us _ g1 g2 =>
          cases e2
          refine ⟨ad, bd, vs, us, rfl, .inr ⟨SqT.at_ h1, SqT.at_ g1, k w2 _ X2 R2 ?_⟩⟩
          exact itz_read (J := ItzT X.K ad bd) false (fun w1 x => by rw [if_neg Bool.false_ne_true]; exact SqT.at_ (x.hard _ _ h1 rfl)) (fun w1 x => by rw [if_neg Bool.false_ne_true]; exact SqT.at_ (x.hard _ _ g1 rfl)) h2 g2 (by rw [if_neg Bool.false_ne_true])
        | _ => cases e2
      | lst ds => cases y with
        | lst es =>
          cases p1 with
          | @lst ad vs _ f1 h1 h2 =>
          cases p2 with
          | @lst bd us _ f2 g1 g2 =>
          cases e2
          refine ⟨ad, bd, vs, us, rfl, .inl ⟨SqL.at_ h1, SqL.at_ g1, k w2 _ X2 R2 ?_⟩⟩
          exact itz_read (J := Itz X.K ad bd) true (fun w1 x => by rw [if_pos rfl]; exact SqL.at_ (x.fr _ _ h1 (.inr f1))) (fun w1 x => by rw [if_pos rfl]; exact SqL.at_ (x.fr _ _ g1 (.inr f2))) h2 g2 (by rw [if_pos rfl])
        | _ => cases e2
      | _ => cases e2
    · cases h
  | .rngd lo hi, X, sc, cf, t, e, g, h => by
    simp only [chkI] at h
    split at h
    · simp only [Bool.and_eq_true, decide_eq_true_eq] at h
      obtain ⟨⟨⟨⟨⟨rfl, h1⟩, h2⟩, h3⟩, h5⟩, h6⟩ := h
      obtain ⟨hg, hm, _, _⟩ := blt_of g h1
      have hl := sndE lo g h2
      have hh := sndE hi g h3
      refine PI.weak (pi_range3 hg hm (pa_cons hl.pe (pa_cons hh.pe (pa_cons (pe_un un_neg pe_int) pa_nil (star_eq rfl)) (star_eq h6)) (star_eq h5)) (star_eq h5) (by rw [star_eq h6, star_eq rfl] <;> rfl)) fun σ H R0 q => ?_
      obtain ⟨w, ρ, M, xs, M', rfl, R, E, e1, k⟩ := q
      refine td2 R E e1 fun x y M2 w2 v u X2 R2 p1 p2 e2 => ?_
      refine ⟨1, rfl, ?_⟩
      cases x with
      | int i => cases y with
        | int j =>
          cases p1; cases p2
          have e5 : (if -(2 ^ 62) ≤ i ∧ i < 2 ^ 62 ∧ -(2 ^ 62) ≤ j ∧ j < 2 ^ 62 then Res.ok (rngDn i j) M2 else .no) = .ok xs M' := e2
          split at e5
          · rename_i hz
            cases e5
            exact ⟨i, j, -1, _, rfl, RgC.neg hz.1 hz.2.1 hz.2.2.1 hz.2.2.2, k w2 _ X2 R2 itrd_read⟩
          · cases e5
        | _ => cases e2
      | _ => cases e2
    · cases h
  | .rvs a, X, sc, cf, t, e, g, h => by
    simp only [chkI] at h
    split at h
    · simp only [Bool.and_eq_true, decide_eq_true_eq] at h
      obtain ⟨⟨⟨rfl, h1⟩, h2⟩, h3⟩ := h
      obtain ⟨hg, hm, _, _⟩ := blt_of g h1
      have ha := sndE a g h2
      refine PI.weak (RT.pi_revA hg hm ha.pe (star_eq h3)) fun σ H R0 q => ?_
      obtain ⟨w, ρ, M, xs, M', rfl, R, E, e1, k⟩ := q
      refine td1 (t := TD X.K Φ a) R E e1 fun x M1 w1 v1 X1 R1 p1 e2 => ?_
      cases x with
      | lst ds =>
        cases p1 with
        | @lst ad vs _ f1 h1 h2 =>
        cases e2
        exact ⟨ad, vs, rfl, .inl ⟨SqL.at_ h1, k w1 _ X1 R1 (itv_read f1 h1 h2)⟩⟩
      | tup ds =>
        cases p1 with
        | @tup ad vs _ h1 h2 =>
        cases e2
        exact ⟨ad, vs, rfl, .inr ⟨SqT.at_ h1, k w1 _ X1 R1 (itvt_read h1 h2)⟩⟩
      | _ => cases e2
    · cases h
  | .enm a, X, sc, cf, t, e, g, h => by
    simp only [chkI] at h
    split at h
    · simp only [Bool.and_eq_true, decide_eq_true_eq] at h
      obtain ⟨⟨⟨⟨rfl, h1⟩, h2⟩, h3⟩, h4⟩ := h
      obtain ⟨hg, hm, _, _⟩ := blt_of g h1
      have ha := sndE a g h2
      cases t <;> first | exact absurd h4 Bool.false_ne_true | skip
      refine PI.weak (pi_enumT hg hm (pa_cons ha.pe pa_nil (star_eq h3)) (star_eq h3)) fun σ H R0 q => ?_
      obtain ⟨w, ρ, M, xs, M', rfl, R, E, e1, k⟩ := q
      refine td1 (t := TD X.K Φ a) R E e1 fun x M1 w1 v1 X1 R1 p1 e2 => ?_
      cases x with
      | lst ds =>
        cases p1 with
        | @lst ad vs _ f1 h1 h2 =>
        cases e2
        exact ⟨ad, vs, rfl, .inl ⟨SqL.at_ h1, k w1 _ X1 R1 (ite_read f1 h1 h2)⟩⟩
      | tup ds =>
        cases p1 with
        | @tup ad vs _ h1 h2 =>
        cases e2
        exact ⟨ad, vs, rfl, .inr ⟨SqT.at_ h1, k w1 _ X1 R1 (itet_read h1 h2)⟩⟩
      | _ => cases e2
    · cases h
end
end
end CZ

set_option Elab.async false
set_option linter.all false
set_option maxRecDepth 100000
set_option maxHeartbeats 16000000
/-! CZ10: statements. -/
namespace CZ
open PySem PySem.Spec PyProof.Rows L2 RZ

/-! ### which Python is which tree -/
def notComp : Expr → Bool
  | .ListComp _ _ _ _ => false
  | .SetComp _ _ _ _ => false
  | .DictComp _ _ _ _ _ => false
  | _ => true
def isTupE : Expr → Bool
  | .Tuple _ _ _ => true
  | _ => false
def lclB (sc : Scope) (x : Str) : Bool := match sc.names.lookup x with
  | some .local => true
  | _ => false
/-- name = [..]: stored within the comprehension's frame -/
def swB (sc : Scope) (x : Str) (l : Nat) (e : Expr) : Bool := match e with
  | .ListComp _ _ scope p => lclB sc x && (l == p.line) && !(scope.names.any fun (n, k) => n == x && (k == .local || k == .cell))
  | _ => false
/-- tuple of names = tuple of values: which names are stored at once; none: as a tuple -/
def swapS (sc : Scope) (ts vs : List Expr) : Option (Option (List Str)) :=
  if !(ts.length == 2 || ts.length == 3) || vs.length != ts.length then some none else
  if vs.any fun | .Starred .. => true | _ => false then some none else
  let line := (ts.head?.map (·.pos.line)).getD 0
  let names := ts.filterMap fun
    | .Name id pos => if sc.names.lookup id == some .local && pos.line == line then some id else none
    | _ => none
  if names.length != ts.length || names.eraseDups.length != names.length then some none else
  if vs.all (foldedForSure 8) then some none else
  if vs.all (constantsAlone 8) then none else
  some (some names)
theorem swapS_eq {sc : Scope} {ts vs : List Expr} {r : Option (List Str)} {env : Env} {k k2 : Nat} {p p2 : Pos} (hs : env.scope = sc) (hk : sc.kind = .function) (h : swapS sc ts vs = some r) : swappedStores [.Tuple ts k p] (.Tuple vs k2 p2) env = pure r := by
  have hb : env.blockKind = .function := by
    unfold Env.blockKind
    rw [hs, hk]
    rfl
  have hbn : (env.blockKind != .function) = false := by rw [hb]; rfl
  unfold swapS at h
  dsimp only at h
  unfold swappedStores
  simp only [Env.kindOf, hs, hbn, Bool.or_false]
  split at h
  · rename_i q
    cases h
    exact if_pos q
  · rename_i q
    refine (if_neg q).trans ?_
    split at h
    · rename_i q2
      cases h
      exact if_pos q2
    · rename_i q2
      refine (if_neg q2).trans ?_
      split at h
      · rename_i q3
        cases h
        exact if_pos q3
      · rename_i q3
        refine (if_neg q3).trans ?_
        split at h
        · rename_i q4
          cases h
          exact if_pos q4
        · rename_i q4
          refine (if_neg q4).trans ?_
          split at h
          · cases h
          · rename_i q5
            cases h
            exact if_neg q5
mutual
def chkS (G : Gam) : S → (Str → Bool) → Scope → Stmt → Bool
  | .pass, _, _, s => (match s with
    | .Pass _ => true
    | _ => false)
  | .brk, _, _, s => (match s with
    | .Break _ => true
    | _ => false)
  | .cnt, _, _, s => (match s with
    | .Continue _ => true
    | _ => false)
  | .set i c, cf, sc, s => (match s with
    | .Assign [.Name x p] e _ => locB G cf sc x i && chkE G c cf sc e && (notComp e || (match e with
        | .ListComp _ _ _ _ => true
        | _ => false))  && (if swB sc x p.line e then lclB sc x else true)
    | _ => false)
  | .unp is c, cf, sc, s => (match s with
    | .Assign [.Tuple ts k p] e _ => tgtB G cf sc (.Tuple ts k p) (.tp is) && chkE G c cf sc e && (match e with
        | .Tuple vs _ _ => (match swapS sc ts vs with
          | some none => true
          | _ => false)
        | _ => true)
    | _ => false)
  | .unp2 is js c, cf, sc, s => (match s with
    | .Assign [.Tuple [.Tuple es k1 p1, .Tuple fs k2 p2] k p] e _ => tgtB G cf sc (.Tuple es k1 p1) (.tp is) && tgtB G cf sc (.Tuple fs k2 p2) (.tp js) && chkE G c cf sc e && (match e with
        | .Tuple vs _ _ => (match swapS sc [.Tuple es k1 p1, .Tuple fs k2 p2] vs with
          | some none => true
          | _ => false)
        | _ => true)
    | _ => false)
  | .par2 i j a b, cf, sc, s => (match s with
    | .Assign [.Tuple [.Name x px, .Name y py] _ _] (.Tuple [e, f] _ _) _ => locB G cf sc x i && locB G cf sc y j && lclB sc x && lclB sc y && decide (i ≠ j) && chkE G a cf sc e && chkE G b cf sc f && notStar e && notStar f &&
        decide (swapS sc [.Name x px, .Name y py] [e, f] = some (some [x, y]))
    | _ => false)
  | .par3 i j l a b c, cf, sc, s => (match s with
    | .Assign [.Tuple [.Name x px, .Name y py, .Name z pz] _ _] (.Tuple [e, f, h] _ _) _ => locB G cf sc x i && locB G cf sc y j && locB G cf sc z l && lclB sc x && lclB sc y && lclB sc z && decide (i ≠ j) && decide (i ≠ l) && decide (j ≠ l) &&
        chkE G a cf sc e && chkE G b cf sc f && chkE G c cf sc h && notStar e && notStar f && notStar h &&
        decide (swapS sc [.Name x px, .Name y py, .Name z pz] [e, f, h] = some (some [x, y, z]))
    | _ => false)
  | .sti o i c, cf, sc, s => (match s with
    | .Assign [.Subscript x y _] e _ => chkE G o cf sc x && chkE G i cf sc y && chkE G c cf sc e && (match y with
        | .Slice _ _ _ _ => false
        | _ => true)
    | _ => false)
  | .exp c, cf, sc, s => (match s with
    | .Expr e _ => chkE G c cf sc e && notComp e
    | _ => false)
  | .ret c, cf, sc, s => (match s with
    | .Return (some e) _ => chkE G c cf sc e
    | _ => false)
  | .retN, _, _, s => (match s with
    | .Return none _ => true
    | _ => false)
  | .ife c a b, cf, sc, s => (match s with
    | .If e l1 l2 _ => chkE G c cf sc e && tst1 e && chkSs G a cf sc l1 && chkSs G b cf sc l2
    | _ => false)
  | .loop tg it b, cf, sc, s => (match s with
    | .For t i l [] _ => tgtB G cf sc t tg && chkI G it cf sc t i && notSet i && chkSs G b cf sc l
    | _ => false)
  | .while c b, cf, sc, s => (match s with
    | .While e l [] _ => chkE G c cf sc e && tst1 e && chkSs G b cf sc l
    | _ => false)
  | .raise _ _, _, _, _ => true
  | _, _, _, _ => false
def chkSs (G : Gam) : S → (Str → Bool) → Scope → List Stmt → Bool
  | .skip, _, _, l => l.isEmpty
  | .seq a b, cf, sc, l => (match a with
    | .gfz _ => chkSs G b cf sc l
    | _ => (match l with
      | s :: r => chkS G a cf sc s && chkSs G b cf sc r
      | [] => false))
  | _, _, _, _ => false
end

/-! ### readings -/
def FlOk (K : PySem.W.Frag) (w : Wd) (M' : Store) (f : Fl) (E : Ends) : Prop := match f with
  | .nx ρ' => ∀ w' σ', Ext w w' → RS K w' M' → RE K w' σ' ρ' → E.nx σ' w'.H
  | .bk ρ' => ∀ w' σ', Ext w w' → RS K w' M' → RE K w' σ' ρ' → E.bk σ' w'.H
  | .ct ρ' => ∀ w' σ', Ext w w' → RS K w' M' → RE K w' σ' ρ' → E.ct σ' w'.H
  | .rt d => ∀ w' v, Ext w w' → RS K w' M' → Rp K w' v d → E.rt v w'.H
theorem FlOk.mono {K : PySem.W.Frag} {w w1 : Wd} {M' : Store} {f : Fl} {E : Ends} (x : Ext w w1) (h : FlOk K w M' f E) : FlOk K w1 M' f E := by
  cases f with
  | nx ρ' => exact fun w' σ' X R q => h w' σ' (x.trans X) R q
  | bk ρ' => exact fun w' σ' X R q => h w' σ' (x.trans X) R q
  | ct ρ' => exact fun w' σ' X R q => h w' σ' (x.trans X) R q
  | rt d => exact fun w' v X R q => h w' v (x.trans X) R q
def TSd (K : PySem.W.Frag) (Φ : Orac) (s : S) : TS := fun E σ H => ∃ w ρ M f M', w.H = H ∧ RS K w M ∧ RE K w σ ρ ∧ ex Φ s ρ M = .ok f M' ∧ FlOk K w M' f E
section
variable {X : Cx} {st : Stmt}
theorem PS.weak {t t' : TS} (h : PS X st t) (i : ∀ E σ H, t' E σ H → t E σ H) : PS X st t' := ⟨fun pins s σ H E I q => h.run pins s σ H E I (i E σ H q)⟩
theorem PSs.weak {l : List Stmt} {t t' : TS} (h : PSs X l t) (i : ∀ E σ H, t' E σ H → t E σ H) : PSs X l t' := ⟨fun pins s σ H E I q => h.run pins s σ H E I (i E σ H q)⟩
end
theorem whileL_ok {fc : Env' → Store → Res Bool} {fb : Env' → Store → Res Fl} {ρ : Env'} {M M' : Store} {f : Fl} (h : whileL fc fb ρ M = .ok f M') : ∃ n, whileN fc fb n ρ M = .ok f M' := by
  unfold whileL at h
  split at h
  · exact ⟨_, h⟩
  · cases h
theorem swapsWith_false {e : Expr} {t : Option Expr} {l : Nat} {env : Env} (h : notComp e = true) : swapsWith e t l env = pure false := by
  cases e <;> first | rfl | cases h
theorem swapsWith_tup {e : Expr} {ts : List Expr} {k : Nat} {p : Pos} {l : Nat} {env : Env} : swapsWith e (some (.Tuple ts k p)) l env = pure false := by
  cases e <;> rfl
theorem swapsWith_sub {e x y : Expr} {p : Pos} {l : Nat} {env : Env} : swapsWith e (some (.Subscript x y p)) l env = pure false := by
  cases e <;> rfl
theorem swapsS_tup {e : Expr} {ts : List Expr} {k : Nat} {p : Pos} (l : Nat) (env : Env) : swapsWithSole [.Tuple ts k p] e l env = pure false := by
  cases e <;> rfl
theorem swapsS_sub {e x y : Expr} {p : Pos} (l : Nat) (env : Env) : swapsWithSole [.Subscript x y p] e l env = pure false := by
  cases e <;> rfl
theorem swapped_tup {e : Expr} {ts : List Expr} {k : Nat} {p : Pos} {env : Env} (h : isTupE e = false) : swappedStores [.Tuple ts k p] e env = pure none := by
  cases e <;> first | rfl | cases h
theorem swapped_sub {e x y : Expr} {p : Pos} {env : Env} : swappedStores [.Subscript x y p] e env = pure none := by
  cases e <;> rfl
theorem swapsWith_name {elt : Expr} {gs : List Comprehension} {scope : Scope} {p2 : Pos} {x : Str} {p : Pos} {l : Nat} {env : Env} {sc : Scope} (hs : env.scope = sc) (hk : sc.kind = .function) : swapsWith (.ListComp elt gs scope p2) (some (.Name x p)) l env = pure (swB sc x p.line (.ListComp elt gs scope p2)) := by
  have hb : env.blockKind = .function := by unfold Env.blockKind; rw [hs, hk]; rfl
  have e1 : (env.kindOf x == some NameKind.local) = lclB sc x := by
    unfold Env.kindOf lclB
    rw [hs]
    cases q : sc.names.lookup x with
    | none => rfl
    | some k => cases k <;> rfl
  unfold swapsWith swB
  simp only [hb, e1, Expr.pos]
  rfl
end CZ

set_option Elab.async false
set_option linter.all false
set_option maxRecDepth 100000
set_option maxHeartbeats 16000000
/-! CZ11: statements do what the tree says. -/
namespace CZ
open PySem PySem.Spec PyProof.Rows L2 RZ

section
variable {G : Gam} {Φ : Orac} {n : Nat}
/-- x = [..] on one line -/
theorem snd_setLc {r : Bool} {elt : C} {tg : Tg} {it : It} {cond : C} {X : Cx} {sc : Scope} {cf : Str → Bool} {e : Expr} {x : Str} {p : Pos} {i : Nat} {pos : Pos} (g : Gd X G sc cf Φ n) (h : chkE G (.comp r elt tg it cond) cf sc e = true) (hl : locB G cf sc x i = true) (hll : lclB sc x = true) (hsw : swB sc x p.line e = true) :
    PS X (.Assign [.Name x p] e pos) (TSd X.K Φ (.set i (.comp r elt tg it cond))) := by
  simp only [chkE] at h
  split at h
  · rename_i x0 t i0 ifs a scope q2
    simp only [Bool.and_eq_true, decide_eq_true_eq] at h
    obtain ⟨⟨⟨⟨⟨⟨rfl, h1⟩, h2⟩, h3⟩, h4⟩, h5⟩, h6⟩ := h
    have ok := blkOk_by h2
    have hI := sndI it g h1
    have okX : BlkOk X.N X.env.scope scope (ownT t tg) := by rw [g.N, g.scp]; exact ok
    have hs := ownT_slots h4
    obtain ⟨l1, l2, l3⟩ := loc_of g hl
    have hyl : X.env.scope.names.lookup x = some .local := by
      rw [g.scp]
      unfold lclB at hll
      split at hll
      · assumption
      · cases hll
    have hswap : swapsWith (.ListComp x0 [⟨t, i0, ifs, 0⟩] scope q2) (some (.Name x p)) pos.line X.env = pure true := by
      rw [swapsWith_name g.scp g.kind, hsw]
    have blk : ∀ (s : Shared) (H : Hp) (C0 : Addr) (cl : List (Str × Addr)) (fp : List Addr), Gd (X.blk s H scope (compEnvC scope cl C0 X.env) fp) G (relS scope sc) (fun y => scope.names.lookup y == some .cell) Φ n := fun s H C0 cl fp => g.blk s H scope C0 cl fp ok.kind
    have fin : ∀ (tt : L2.TT), (∀ σ' H Qb, TT X.K Φ cond σ' H Qb → tt σ' H Qb) → (∀ (s : Shared) (H : Hp) (C0 : Addr) (cl : List (Str × Addr)) (fp : List Addr), PTs (X.blk s H scope (compEnvC scope cl C0 X.env) fp) ifs tt) → PS X (.Assign [.Name x p] (.ListComp x0 [⟨t, i0, ifs, 0⟩] scope q2) pos) (TSd X.K Φ (.set i (.comp r elt tg it cond))) := fun tt htt ht => by
      refine PS.weak (ps_setLc (i := i) g.calm g.nd l1 hyl hswap hI okX (g := TDG X.K tg) (tt := tt) (te := TD X.K Φ elt) (fun s H C0 cl fp => pg_of (blk s H C0 cl fp) h4) ht (fun s H C0 cl fp => (sndE elt (blk s H C0 cl fp) h5).pe) (folded_eq h3)) fun D0 σ H q => ?_
      obtain ⟨w, ρ, M, f, M', rfl, R, E, e1, k⟩ := q
      obtain ⟨d, M3, e0, e6⟩ := Res.bind_eq_ok e1
      cases e6
      obtain ⟨xs, M1, e2, e3⟩ := Res.bind_eq_ok e0
      obtain ⟨ys, M2, e4, e5⟩ := Res.bind_eq_ok e3
      refine ⟨w, ρ, M, xs, M1, rfl, R, E, e2, fun w1 J X1 R1 hJ => ?_⟩
      rw [hs]
      exact comp_read htt R1 (E.mono X1) e4 e5 (fun w2 v2 X2 R2 p2 => k w2 _ (X1.trans X2) R2 (((E.mono X1).mono X2).set i p2)) hJ
    split at h6
    · split at h6
      · refine fin tYes (fun σ' H Qb q => ?_) (fun _ _ _ _ _ => pts_nil)
        obtain ⟨w, ρ, M, b, M', rfl, R, E, e1, k⟩ := q
        cases e1
        exact k w (Ext.refl w) R
      · cases h6
    · rename_i y
      rw [Bool.and_eq_true] at h6
      exact fin (TT X.K Φ cond) (fun _ _ _ q => q) (fun s H C0 cl fp => pts_one ((sndE cond (blk s H C0 cl fp) h6.1).pt h6.2))
    · cases h6
  · cases h
theorem assign_sub_eq {o i : Expr} {pos : Pos} {env : Env} (h : (match i with
        | .Slice _ _ _ _ => false
        | _ => true) = true) : ∀ v, assign (.Subscript o i pos) env v = (do
      let ov ← holding [v] (eval o env)
      let iv ← holding [v, ov] (eval i env)
      standAt pos
      holding [v, ov, iv] (setItem ov iv v)
      release [v, ov, iv] []) := by
  intro v
  cases i <;> first | rfl | cases h
/-- o[i] = v on data -/
theorem set_list' {X : Cx} : PSet X (fun o i v H Q => ∃ w M dx dy dz M', w.H = H ∧ RS X.K w M ∧ Rp X.K w o dx ∧ Rp X.K w i dy ∧ Rp X.K w v dz ∧ sti dx dy dz M = .ok () M' ∧ ∀ w', Ext w w' → RS X.K w' M' → Q w'.H) := by
  intro pins s σ H o i v ov iv u Q I ro ri rv h
  obtain ⟨w, M, dx, dy, dz, M', rfl, R, px, py, pz, e, k⟩ := h
  cases dx with
  | ref a => cases dy with
    | int j =>
      cases px with
      | @ref ad _ ha =>
      cases py
      have e : (match M[a]? with
        | some (.lst xs) => (match L2.ixN xs.length j with
          | some m => Res.ok () (M.set a (.lst (xs.set m dz)))
          | none => .no)
        | _ => .no) = .ok () M' := e
      split at e
      · rename_i xs q
        split at e
        · rename_i m q2
          cases e
          obtain ⟨vs, e1, e2, e3⟩ := R.obj a _ ad q ha
          obtain ⟨w', f1, f2, f3⟩ := R.wr q ha (vs := vs) (e3.set pz m)
          refine set_list pins s σ w.H _ _ v ov iv u Q I ro ri rv ⟨ad, vs, j, m, rfl, rfl, e1, by rw [e3.length]; exact q2, ?_⟩
          rw [← f1]
          exact k w' f2 f3
        · cases e
      · cases e
    | _ => cases e
  | _ => cases dy <;> cases e
mutual
theorem sndS : ∀ (c : S) {X : Cx} {sc : Scope} {cf : Str → Bool} {s : Stmt}, Gd X G sc cf Φ n → PassesOwn (model X.prog X.w) X.A X.env X.xe → chkS G c cf sc s = true → PS X s (TSd X.K Φ c)
  | .pass, X, sc, cf, s, g, hp, h => by
    simp only [chkS] at h
    split at h
    · refine PS.weak ps_pass fun D0 σ H q => ?_
      obtain ⟨w, ρ, M, f, M', rfl, R, E, e1, k⟩ := q
      cases e1
      exact k w σ (Ext.refl w) R E
    · cases h
  | .brk, X, sc, cf, s, g, hp, h => by
    simp only [chkS] at h
    split at h
    · refine PS.weak ps_break fun D0 σ H q => ?_
      obtain ⟨w, ρ, M, f, M', rfl, R, E, e1, k⟩ := q
      cases e1
      exact k w σ (Ext.refl w) R E
    · cases h
  | .cnt, X, sc, cf, s, g, hp, h => by
    simp only [chkS] at h
    split at h
    · refine PS.weak ps_continue fun D0 σ H q => ?_
      obtain ⟨w, ρ, M, f, M', rfl, R, E, e1, k⟩ := q
      cases e1
      exact k w σ (Ext.refl w) R E
    · cases h
  | .set i c, X, sc, cf, s, g, hp, h => by
    simp only [chkS] at h
    split at h
    · rename_i x p e pos
      simp only [Bool.and_eq_true] at h
      obtain ⟨⟨⟨h1, h2⟩, h3⟩, h4⟩ := h
      obtain ⟨l1, l2, l3⟩ := loc_of g h1
      cases hsw : swB sc x p.line e with
      | true =>
        rw [hsw, if_pos rfl] at h4
        have hc : ∃ r elt tg it cond, c = .comp r elt tg it cond := by
          cases e <;> first | exact absurd hsw Bool.false_ne_true | skip
          cases c <;> first
            | exact ⟨_, _, _, _, _, rfl⟩
            | (simp [chkE] at h2; done)
        obtain ⟨r, elt, tg, it, cond, rfl⟩ := hc
        exact snd_setLc g h2 h1 h4 hsw
      | false =>
        have hs : swapsWith e (some (.Name x p)) pos.line X.env = pure false := by
          cases e <;> first
            | rfl
            | exact absurd h3 Bool.false_ne_true
            | (rw [swapsWith_name g.scp g.kind, hsw])
        refine PS.weak (ps_set (i := i) g.nd l1 l2 (sndE c g h2).pe hs l3) fun D0 σ H q => ?_
        obtain ⟨w, ρ, M, f, M', rfl, R, E, e1, k⟩ := q
        refine td1 (t := TD X.K Φ c) R E e1 fun d M1 w1 v1 X1 R1 p1 e2 => ?_
        cases e2
        exact k w1 _ X1 R1 ((E.mono X1).set i p1)
    · cases h
  | .unp is c, X, sc, cf, s, g, hp, h => by
    simp only [chkS] at h
    split at h
    · rename_i ts kk p e pos
      simp only [Bool.and_eq_true] at h
      obtain ⟨⟨h1, h2⟩, h3⟩ := h
      have hw : swappedStores [.Tuple ts kk p] e X.env = pure none := by
        cases e <;> first | exact swapped_tup rfl | skip
        have h3 : (match swapS sc ts _ with
          | some none => true
          | _ => false) = true := h3
        split at h3
        · rename_i q
          exact swapS_eq g.scp g.kind q
        · cases h3
      refine PS.weak (ps_asg (sndE c g h2).pe (pg_of g h1) (swapsS_tup _ _) hw rfl) fun D0 σ H q => ?_
      obtain ⟨w, ρ, M, f, M', rfl, R, E, e1, k⟩ := q
      refine td1 (t := TD X.K Φ c) R E e1 fun d M1 w1 v1 X1 R1 p1 e2 => ?_
      split at e2
      · rename_i ρ1 q
        cases e2
        exact ⟨w1, ρ, d, ρ1, rfl, E.mono X1, p1, q, fun σ' E' _ _ => k w1 σ' X1 R1 E'⟩
      · cases e2
    · cases h
  | .unp2 is js c, X, sc, cf, s, g, hp, h => by
    simp only [chkS] at h
    split at h
    · rename_i es k1 p1 fs k2 p2 kk p e pos
      simp only [Bool.and_eq_true] at h
      obtain ⟨⟨⟨h1, h1'⟩, h2⟩, h3⟩ := h
      have hw : swappedStores [.Tuple [.Tuple es k1 p1, .Tuple fs k2 p2] kk p] e X.env = pure none := by
        cases e <;> first | exact swapped_tup rfl | skip
        have h3 : (match swapS sc [.Tuple es k1 p1, .Tuple fs k2 p2] _ with
          | some none => true
          | _ => false) = true := h3
        split at h3
        · rename_i q
          exact swapS_eq g.scp g.kind q
        · cases h3
      have pg : PG X (.Tuple [.Tuple es k1 p1, .Tuple fs k2 p2] kk p) (gTup X.K 2 (gCons (TDG X.K (.tp is)) (gCons (TDG X.K (.tp js)) gNil))) := pg_tup g.calm (pgs_cons (pg_of g h1) (pgs_cons (pg_of g h1') pgs_nil)) rfl rfl
      refine PS.weak (ps_asg (sndE c g h2).pe pg (swapsS_tup _ _) hw rfl) fun D0 σ H q => ?_
      obtain ⟨w, ρ, M, f, M', rfl, R, E, e1, k⟩ := q
      refine td1 (t := TD X.K Φ c) R E e1 fun d M1 w1 v1 X1 R1 p1 e2 => ?_
      obtain ⟨ρ2, M2, e3, e4⟩ := Res.bind_eq_ok e2
      obtain ⟨e5, rfl⟩ := opt_eq_ok e3
      cases e4
      cases d with
      | tup ds =>
        match ds, e5, p1 with
        | [], e5, _ => cases e5
        | [_], e5, _ => cases e5
        | _ :: _ :: _ :: _, e5, _ => cases e5
        | [x, y], e5, p1 =>
          cases p1 with
          | @tup a vs _ q1 q2 =>
          cases q2 with
          | @cons vx _ _ _ px q2 =>
          cases q2 with
          | @cons vy _ _ _ py q2 =>
          cases q2
          have e6 : ((setT (.tp is) x ρ).bind fun ρ1 => setT (.tp js) y ρ1) = some ρ2 := e5
          obtain ⟨ρ1, e7, e8⟩ := Option.bind_eq_some_iff.mp e6
          refine ⟨a, [vx, vy], rfl, SqT.at_ q1, rfl, vx, [vy], rfl, w1, ρ, x, ρ1, rfl, E.mono X1, px, e7, fun σ1 E1 _ _ => ?_⟩
          refine ⟨vy, [], rfl, w1, ρ1, y, ρ2, rfl, E1, py, e8, fun σ2 E2 _ _ => ⟨rfl, k w1 σ2 X1 R1 E2⟩⟩
      | _ => cases e5
    · cases h
  | .par2 i j a b, X, sc, cf, s, g, hp, h => by
    simp only [chkS] at h
    split at h
    · simp only [Bool.and_eq_true, decide_eq_true_eq] at h
      obtain ⟨⟨⟨⟨⟨⟨⟨⟨⟨h1, h2⟩, h3⟩, h4⟩, h5⟩, h6⟩, h7⟩, h8⟩, h9⟩, h10⟩ := h
      obtain ⟨a1, a2, a3⟩ := loc_of g h1
      obtain ⟨b1, b2, b3⟩ := loc_of g h2
      have lc : ∀ {x : Str}, lclB sc x = true → X.env.scope.names.lookup x = some .local := fun {x} q => by
        rw [g.scp]
        unfold lclB at q
        split at q
        · assumption
        · cases q
      refine PS.weak (ps_par (i := i) (j := j) g.calm g.nd a1 b1 h5 (lc h3) (lc h4) (pa_cons (sndE a g h6).pe (pa_cons (sndE b g h7).pe pa_nil (star_eq h9)) (star_eq h8)) (swapS_eq g.scp g.kind h10) (swapsS_tup _ _)) fun D0 σ H q => ?_
      obtain ⟨w, ρ, M, f, M', rfl, R, E, e1, k⟩ := q
      refine td2 R E e1 fun x y M2 w2 v u X2 R2 p1 p2 e2 => ?_
      cases e2
      exact ⟨v, u, rfl, k w2 _ X2 R2 (((E.mono X2).set i p1).set j p2)⟩
    · cases h
  | .par3 i j l a b c, X, sc, cf, s, g, hp, h => by
    simp only [chkS] at h
    split at h
    · simp only [Bool.and_eq_true, decide_eq_true_eq] at h
      obtain ⟨⟨⟨⟨⟨⟨⟨⟨⟨⟨⟨⟨⟨⟨⟨h1, h2⟩, h2'⟩, h3⟩, h4⟩, h4'⟩, h5⟩, h5'⟩, h5''⟩, h6⟩, h7⟩, h7'⟩, h8⟩, h9⟩, h9'⟩, h10⟩ := h
      obtain ⟨a1, a2, a3⟩ := loc_of g h1
      obtain ⟨b1, b2, b3⟩ := loc_of g h2
      obtain ⟨c1, c2, c3⟩ := loc_of g h2'
      have lc : ∀ {x : Str}, lclB sc x = true → X.env.scope.names.lookup x = some .local := fun {x} q => by
        rw [g.scp]
        unfold lclB at q
        split at q
        · assumption
        · cases q
      refine PS.weak (ps_par3 (i := i) (j := j) (l := l) g.calm g.nd a1 b1 c1 h5 h5' h5'' (lc h3) (lc h4) (lc h4') (pa_cons (sndE a g h6).pe (pa_cons (sndE b g h7).pe (pa_cons (sndE c g h7').pe pa_nil (star_eq h9')) (star_eq h9)) (star_eq h8)) (swapS_eq g.scp g.kind h10) (swapsS_tup _ _)) fun D0 σ H q => ?_
      obtain ⟨w, ρ, M, f, M', rfl, R, E, e1, k⟩ := q
      refine td2 R E e1 fun x y M2 w2 v u X2 R2 p1 p2 e2 => ?_
      obtain ⟨z, M3, e3, e4⟩ := Res.bind_eq_ok e2
      cases e4
      exact ⟨w2, ρ, M2, z, M', rfl, R2, E.mono X2, e3, fun w3 v3 X3 R3 p3 => ⟨v, u, v3, rfl, k w3 _ (X2.trans X3) R3 (((((E.mono X2).mono X3).set i (p1.mono X3)).set j (p2.mono X3)).set l p3)⟩⟩
    · cases h
  | .sti o i c, X, sc, cf, s, g, hp, h => by
    simp only [chkS] at h
    split at h
    · simp only [Bool.and_eq_true] at h
      obtain ⟨⟨⟨h1, h2⟩, h3⟩, h4⟩ := h
      refine PS.weak (ps_asg (sndE c g h3).pe (pg_sub (sndE o g h1).pe (sndE i g h2).pe set_list' (assign_sub_eq h4)) (swapsS_sub _ _) swapped_sub rfl) fun D0 σ H q => ?_
      obtain ⟨w, ρ, M, f, M', rfl, R, E, e1, k⟩ := q
      refine td1 (t := TD X.K Φ c) R E e1 fun d M1 w1 v1 X1 R1 p1 e2 => ?_
      refine td2 R1 (E.mono X1) e2 fun x y M2 w2 v u X2 R2 px py e3 => ?_
      obtain ⟨_, M3, e4, e5⟩ := Res.bind_eq_ok e3
      cases e5
      exact ⟨w2, M2, x, y, d, _, rfl, R2, px, py, p1.mono X2, e4, fun w3 X3 R3 => k w3 σ ((X1.trans X2).trans X3) R3 (((E.mono X1).mono X2).mono X3)⟩
    · cases h
  | .exp c, X, sc, cf, s, g, hp, h => by
    simp only [chkS] at h
    split at h
    · rw [Bool.and_eq_true] at h
      refine PS.weak (ps_expr (sndE c g h.1).pe (swapsWith_false h.2)) fun D0 σ H q => ?_
      obtain ⟨w, ρ, M, f, M', rfl, R, E, e1, k⟩ := q
      refine td1 (t := TD X.K Φ c) R E e1 fun d M1 w1 v1 X1 R1 p1 e2 => ?_
      cases e2
      exact k w1 σ X1 R1 (E.mono X1)
    · cases h
  | .ret c, X, sc, cf, s, g, hp, h => by
    simp only [chkS] at h
    split at h
    · refine PS.weak (ps_ret (sndE c g h).pe) fun D0 σ H q => ?_
      obtain ⟨w, ρ, M, f, M', rfl, R, E, e1, k⟩ := q
      refine td1 (t := TD X.K Φ c) R E e1 fun d M1 w1 v1 X1 R1 p1 e2 => ?_
      cases e2
      exact k w1 v1 X1 R1 p1
    · cases h
  | .retN, X, sc, cf, s, g, hp, h => by
    simp only [chkS] at h
    split at h
    · refine PS.weak ps_retN fun D0 σ H q => ?_
      obtain ⟨w, ρ, M, f, M', rfl, R, E, e1, k⟩ := q
      cases e1
      exact k w .non (Ext.refl w) R .non
    · cases h
  | .ife c a b, X, sc, cf, s, g, hp, h => by
    simp only [chkS] at h
    split at h
    · simp only [Bool.and_eq_true] at h
      obtain ⟨⟨⟨h1, h2⟩, h3⟩, h4⟩ := h
      refine PS.weak (ps_if ((sndE c g h1).pt h2) (sndSs a g hp h3) (sndSs b g hp h4)) fun D0 σ H q => ?_
      obtain ⟨w, ρ, M, f, M', rfl, R, E, e1, k⟩ := q
      obtain ⟨t, M1, e2, e3⟩ := Res.bind_eq_ok e1
      refine ⟨w, ρ, M, t, M1, rfl, R, E, e2, fun w1 X1 R1 => ?_⟩
      cases t with
      | true =>
        rw [if_pos rfl] at e3 ⊢
        exact ⟨w1, ρ, M1, f, M', rfl, R1, E.mono X1, e3, k.mono X1⟩
      | false =>
        rw [if_neg Bool.false_ne_true] at e3 ⊢
        exact ⟨w1, ρ, M1, f, M', rfl, R1, E.mono X1, e3, k.mono X1⟩
    · cases h
  | .loop tg it b, X, sc, cf, s, g, hp, h => by
    simp only [chkS] at h
    split at h
    · simp only [Bool.and_eq_true] at h
      obtain ⟨⟨⟨h1, h2⟩, h3⟩, h4⟩ := h
      refine PS.weak (ps_for hp g.calm (sndI it g h2) (pg_of g h1) (sndSs b g hp h4) (folded_eq h3)) fun D0 σ H q => ?_
      obtain ⟨w, ρ, M, f, M', rfl, R, E, e1, k⟩ := q
      obtain ⟨xs, M1, e2, e3⟩ := Res.bind_eq_ok e1
      refine ⟨w, ρ, M, xs, M1, rfl, R, E, e2, fun w0 J X0 R0 hJ => ?_⟩
      obtain ⟨j1, j2, j3⟩ := hJ
      refine ⟨fun i m σ H => m = xs.length - i ∧ i ≤ xs.length ∧ ∃ w ρ M, w.H = H ∧ Ext w0 w ∧ RS X.K w M ∧ RE X.K w σ ρ ∧ forL (ex Φ b) tg (xs.drop i) ρ M = .ok f M', ⟨xs.length, by simp, Nat.zero_le _, w0, ρ, M1, rfl, Ext.refl w0, R0, E.mono X0, e3⟩, ?_⟩
      rintro i m σ1 H1 ⟨rfl, hi, w1, ρ1, M2, rfl, X1, R1, E1, ef⟩
      by_cases hlt : i < xs.length
      · refine .inr ⟨j1 i w1 X1 hlt, fun σ' H' => ∃ w ρ M, w.H = H' ∧ Ext w0 w ∧ RS X.K w M ∧ RE X.K w σ' ρ ∧ forL (ex Φ b) tg (xs.drop (i + 1)) ρ M = .ok f M', fun σ' H' hn => ⟨xs.length - (i + 1), by omega, rfl, hlt, hn⟩, fun x H' hy => ?_⟩
        obtain ⟨w2, dx, rfl, X2, hR2, ed, px⟩ := j3 i w1 x H' X1 ⟨M2, R1⟩ hy hlt
        have R2 := hR2 M2 R1
        rw [List.drop_eq_getElem_cons hlt] at ef
        have edx : xs[i] = dx := by
          rw [List.getElem?_eq_getElem hlt] at ed
          exact Option.some.inj ed
        rw [edx] at ef
        have ef' : (match setT tg dx ρ1 with
          | none => Res.no
          | some ρ' => (ex Φ b ρ' M2).bind fun f M1 => match f with
            | .nx ρ1 => forL (ex Φ b) tg (xs.drop (i + 1)) ρ1 M1
            | .ct ρ1 => forL (ex Φ b) tg (xs.drop (i + 1)) ρ1 M1
            | .bk ρ1 => .ok (.nx ρ1) M1
            | .rt d => .ok (.rt d) M1) = .ok f M' := ef
        cases es : setT tg dx ρ1 with
        | none => rw [es] at ef'; cases ef'
        | some ρ' =>
          rw [es] at ef'
          refine ⟨w2, ρ1, dx, ρ', rfl, E1.mono X2, px, es, fun σ2 E2 _ _ => ?_⟩
          obtain ⟨fl, M3, e4, e5⟩ := Res.bind_eq_ok ef'
          refine ⟨w2, ρ', M2, fl, M3, rfl, R2, E2, e4, ?_⟩
          cases fl with
          | nx ρ3 => exact fun w3 σ3 X3 R3 E3 => ⟨w3, ρ3, M3, rfl, (X1.trans X2).trans X3, R3, E3, e5⟩
          | ct ρ3 => exact fun w3 σ3 X3 R3 E3 => ⟨w3, ρ3, M3, rfl, (X1.trans X2).trans X3, R3, E3, e5⟩
          | bk ρ3 =>
            cases e5
            exact fun w3 σ3 X3 R3 E3 => k w3 σ3 (X0.trans ((X1.trans X2).trans X3)) R3 E3
          | rt d =>
            cases e5
            exact fun w3 v X3 R3 p3 => k w3 v (X0.trans ((X1.trans X2).trans X3)) R3 p3
      · have ei : i = xs.length := by omega
        subst ei
        refine .inl ⟨j2 _ w1 X1 (Nat.le_refl _), ?_⟩
        rw [List.drop_length] at ef
        cases ef
        exact k w1 σ1 (X0.trans X1) R1 E1
    · cases h
  | .while c b, X, sc, cf, s, g, hp, h => by
    simp only [chkS] at h
    split at h
    · simp only [Bool.and_eq_true] at h
      obtain ⟨⟨h1, h2⟩, h3⟩ := h
      refine PS.weak (ps_while hp ((sndE c g h1).pt h2) (sndSs b g hp h3)) fun D0 σ H q => ?_
      obtain ⟨w, ρ, M, f, M', rfl, R, E, e1, k⟩ := q
      obtain ⟨m0, e2⟩ := whileL_ok (show whileL (tst Φ c) (ex Φ b) ρ M = .ok f M' from e1)
      refine ⟨fun m σ H => ∃ w1 ρ M, w1.H = H ∧ Ext w w1 ∧ RS X.K w1 M ∧ RE X.K w1 σ ρ ∧ whileN (tst Φ c) (ex Φ b) m ρ M = .ok f M', ⟨m0, w, ρ, M, rfl, Ext.refl w, R, E, e2⟩, ?_⟩
      rintro m σ1 H1 ⟨w1, ρ1, M1, rfl, X1, R1, E1, ef⟩
      cases m with
      | zero => cases ef
      | succ m =>
        have ef' : (tst Φ c ρ1 M1).bind (fun t M1 => if t then (ex Φ b ρ1 M1).bind fun f M2 => (match f with
            | .nx ρ1 => whileN (tst Φ c) (ex Φ b) m ρ1 M2
            | .ct ρ1 => whileN (tst Φ c) (ex Φ b) m ρ1 M2
            | .bk ρ1 => .ok (.nx ρ1) M2
            | .rt d => .ok (.rt d) M2) else .ok (.nx ρ1) M1) = .ok f M' := ef
        obtain ⟨t, M2, e3, e4⟩ := Res.bind_eq_ok ef'
        refine ⟨w1, ρ1, M1, t, M2, rfl, R1, E1, e3, fun w2 X2 R2 => ?_⟩
        cases t with
        | true =>
          rw [if_pos rfl] at e4 ⊢
          refine ⟨fun σ' H' => ∃ w1 ρ M, w1.H = H' ∧ Ext w w1 ∧ RS X.K w1 M ∧ RE X.K w1 σ' ρ ∧ whileN (tst Φ c) (ex Φ b) m ρ M = .ok f M', fun σ' H' hn => ⟨m, Nat.lt_succ_self m, hn⟩, ?_⟩
          obtain ⟨fl, M3, e5, e6⟩ := Res.bind_eq_ok e4
          refine ⟨w2, ρ1, M2, fl, M3, rfl, R2, E1.mono X2, e5, ?_⟩
          cases fl with
          | nx ρ3 => exact fun w3 σ3 X3 R3 E3 => ⟨w3, ρ3, M3, rfl, (X1.trans X2).trans X3, R3, E3, e6⟩
          | ct ρ3 => exact fun w3 σ3 X3 R3 E3 => ⟨w3, ρ3, M3, rfl, (X1.trans X2).trans X3, R3, E3, e6⟩
          | bk ρ3 =>
            cases e6
            exact fun w3 σ3 X3 R3 E3 => k w3 σ3 ((X1.trans X2).trans X3) R3 E3
          | rt d =>
            cases e6
            exact fun w3 v X3 R3 p3 => k w3 v ((X1.trans X2).trans X3) R3 p3
        | false =>
          rw [if_neg Bool.false_ne_true] at e4 ⊢
          cases e4
          exact k w2 σ1 (X1.trans X2) R2 (E1.mono X2)
    · cases h
  | .skip, _, _, _, _, _, _, h => by simp [chkS] at h
  | .seq _ _, _, _, _, _, _, _, h => by simp [chkS] at h
  | .gfz _, _, _, _, _, _, _, h => by simp [chkS] at h
  | .raise _ _, X, sc, cf, s, g, hp, h => ⟨fun pins s σ H E I q => by
    obtain ⟨w, ρ, M, f, M', _, _, _, e1, _⟩ := q
    cases e1⟩
theorem sndSs : ∀ (c : S) {X : Cx} {sc : Scope} {cf : Str → Bool} {l : List Stmt}, Gd X G sc cf Φ n → PassesOwn (model X.prog X.w) X.A X.env X.xe → chkSs G c cf sc l = true → PSs X l (TSd X.K Φ c)
  | .skip, X, sc, cf, l, g, hp, h => by
    cases l with
    | nil =>
      refine PSs.weak pss_nil fun D0 σ H q => ?_
      obtain ⟨w, ρ, M, f, M', rfl, R, E, e1, k⟩ := q
      cases e1
      exact k w σ (Ext.refl w) R E
    | cons _ _ => simp [chkSs] at h
  | .seq a b, X, sc, cf, l, g, hp, h => by
    simp only [chkSs] at h
    split at h
    · rename_i i
      refine PSs.weak (sndSs b g hp h) fun D0 σ H q => ?_
      obtain ⟨w, ρ, M, f, M', rfl, R, E, e1, k⟩ := q
      obtain ⟨fl, M1, e2, e3⟩ := Res.bind_eq_ok e1
      have e2' : (match ρ[i]? with
        | some (some d) => (frzD d M).bind fun d M1 => Res.ok (Fl.nx (ρ.set i (some d))) M1
        | _ => .no) = .ok fl M1 := e2
      split at e2'
      · rename_i d q
        obtain ⟨d', M2, e4, e5⟩ := Res.bind_eq_ok e2'
        cases e5
        obtain ⟨v, hv, pv⟩ := E.val i d q
        have hfz : ∃ w', w'.H = w.H ∧ Ext w w' ∧ RS X.K w' M1 ∧ Rp X.K w' v d' := by
          cases d with
          | ref j =>
            cases pv with
            | @ref ad _ had =>
            have e6 : (match M[j]? with
              | some (.lst xs) => Res.ok (D.lst xs) (M.set j .dead)
              | _ => .no) = .ok d' M1 := e4
            split at e6
            · rename_i xs q2
              cases e6
              exact R.freeze q2 had
            · cases e6
          | _ => cases e4; exact ⟨w, rfl, Ext.refl w, R, pv⟩
        obtain ⟨w', f1, f2, f3, f4⟩ := hfz
        rw [← f1]
        refine ⟨w', _, M1, f, M', rfl, f3, ?_, e3, k.mono f2⟩
        refine ⟨by rw [List.length_set]; exact E.len, fun j dj hj => ?_⟩
        by_cases ej : i = j
        · subst ej
          have hl : i < ρ.length := (List.getElem?_eq_some_iff.mp q).1
          rw [List.getElem?_set_self hl] at hj
          cases hj
          exact ⟨v, hv, f4⟩
        · rw [List.getElem?_set_ne ej] at hj
          obtain ⟨u, hu, pu⟩ := E.val j dj hj
          exact ⟨u, hu, pu.mono f2⟩
      · cases e2'
    · cases l with
      | nil => cases h
      | cons s r =>
        have h : (chkS G a cf sc s && chkSs G b cf sc r) = true := h
        rw [Bool.and_eq_true] at h
        refine PSs.weak (pss_cons (sndS a g hp h.1) (sndSs b g hp h.2)) fun D0 σ H q => ?_
        obtain ⟨w, ρ, M, f, M', rfl, R, E, e1, k⟩ := q
        obtain ⟨fl, M1, e2, e3⟩ := Res.bind_eq_ok e1
        refine ⟨w, ρ, M, fl, M1, rfl, R, E, e2, ?_⟩
        cases fl with
        | nx ρ1 => exact fun w1 σ1 X1 R1 E1 => ⟨w1, ρ1, M1, f, M', rfl, R1, E1, e3, k.mono X1⟩
        | bk ρ1 => cases e3; exact k
        | ct ρ1 => cases e3; exact k
        | rt d => cases e3; exact k
  | .pass, _, _, _, _, _, _, h => by simp [chkSs] at h
  | .brk, _, _, _, _, _, _, h => by simp [chkSs] at h
  | .cnt, _, _, _, _, _, _, h => by simp [chkSs] at h
  | .set _ _, _, _, _, _, _, _, h => by simp [chkSs] at h
  | .unp _ _, _, _, _, _, _, _, h => by simp [chkSs] at h
  | .unp2 _ _ _, _, _, _, _, _, _, h => by simp [chkSs] at h
  | .par2 _ _ _ _, _, _, _, _, _, _, h => by simp [chkSs] at h
  | .par3 _ _ _ _ _ _, _, _, _, _, _, _, h => by simp [chkSs] at h
  | .sti _ _ _, _, _, _, _, _, _, h => by simp [chkSs] at h
  | .exp _, _, _, _, _, _, _, h => by simp [chkSs] at h
  | .ret _, _, _, _, _, _, _, h => by simp [chkSs] at h
  | .retN, _, _, _, _, _, _, h => by simp [chkSs] at h
  | .ife _ _ _, _, _, _, _, _, _, h => by simp [chkSs] at h
  | .loop _ _ _, _, _, _, _, _, _, h => by simp [chkSs] at h
  | .while _ _, _, _, _, _, _, _, h => by simp [chkSs] at h
  | .gfz _, _, _, _, _, _, _, h => by simp [chkSs] at h
  | .raise _ _, _, _, _, _, _, _, h => by simp [chkSs] at h
end
end
end CZ

set_option Elab.async false
set_option linter.all false
set_option maxRecDepth 100000
set_option maxHeartbeats 16000000
/-! CZ12: defs, the program, the law. -/
namespace CZ
open PySem PySem.Spec PyProof.Rows L2 RZ

def plainP (a : Arguments) (ps : List Str) : Bool := a.posonlyargs.isEmpty && a.vararg.isNone && a.kwonlyargs.isEmpty && a.kwarg.isNone && a.defaults.isEmpty && decide (a.args.map (·.arg) = ps) && decide ps.Nodup
theorem lookup_zip : ∀ {ps : List Str} {us : List Value} {i : Nat} {x : Str} {u : Value}, ps.Nodup → ps[i]? = some x → us[i]? = some u → (ps.zip us).lookup x = some u
  | [], _, _, _, _, _, h, _ => by simp at h
  | _ :: _, [], _, _, _, _, _, h => by simp at h
  | p :: ps, w :: us, 0, x, u, nd, h1, h2 => by
    simp at h1 h2; subst h1; subst h2
    simp [List.lookup]
  | p :: ps, w :: us, i + 1, x, u, nd, h1, h2 => by
    have hx : x ∈ ps := List.mem_of_getElem? (by simpa using h1)
    have hne : (x == p) = false := beq_eq_false_iff_ne.mpr fun e => (List.nodup_cons.mp nd).1 (e ▸ hx)
    show List.lookup x ((p, w) :: ps.zip us) = _
    rw [List.lookup, hne]
    exact lookup_zip (i := i) (List.nodup_cons.mp nd).2 (by simpa using h1) (by simpa using h2)
/-- looking all names up -/
theorem look_all {L : List (Str × Value)} : ∀ {ps : List Str} {us : List Value}, us.length = ps.length → (∀ (i : Nat) x u, ps[i]? = some x → us[i]? = some u → L.lookup x = some u) → (ps.filterMap fun n => (L.lookup n).map (n, ·)) = ps.zip us
  | [], _, _, _ => rfl
  | p :: ps, [], h, _ => by simp at h
  | p :: ps, w :: us, h, hh => by
    have e := hh 0 p w rfl rfl
    rw [List.filterMap_cons, e]
    show (p, w) :: _ = (p, w) :: ps.zip us
    rw [look_all (us := us) (by simpa using h) fun i x u h1 h2 => hh (i + 1) x u (by simpa using h1) (by simpa using h2)]
theorem bind_plain {x qual : Str} {params : Arguments} {body : List Stmt} {scope : Scope} {kV doc pm cdv ct : Value} {an : Option Addr} {ps : List Str} (h : plainP params ps = true) (us : List Value) (hl : us.length = ps.length) :
    bindArgs (PySem.W.fnOf x qual params body scope .none kV doc pm an cdv ct) ⟨us, []⟩ = pure (ps.zip us) := by
  obtain ⟨po, ar, va, ko, kd, kw, df⟩ := params
  unfold plainP at h
  simp only [Bool.and_eq_true, decide_eq_true_eq, List.isEmpty_iff, Option.isNone_iff_eq_none] at h
  obtain ⟨⟨⟨⟨⟨⟨rfl, rfl⟩, rfl⟩, rfl⟩, rfl⟩, h6⟩, h7⟩ := h
  have lk : ∀ (i : Nat) z u, ps[i]? = some z → us[i]? = some u → (ps.zip us).lookup z = some u := fun i z u => lookup_zip h7
  have e1 : (ps.filterMap fun n => ((ps.zip us).lookup n).map (n, ·)) = ps.zip us := look_all hl lk
  have e2 : (ps.filter fun n => ((ps.zip us).lookup n).isNone) = [] := by
    rw [List.filter_eq_nil_iff]
    intro z hz
    obtain ⟨i, hi⟩ := List.getElem?_of_mem hz
    have hi' : i < us.length := by rw [hl]; exact (List.getElem?_eq_some_iff.mp hi).1
    rw [lk i z _ hi (List.getElem?_eq_getElem hi')]
    simp
  have e3 : (decide (us.length > ps.length)) = false := decide_eq_false (by omega)
  have e4 : (seqItems? Value.none : Sem (Option (Array Value))) = pure none := rfl
  unfold bindArgs PySem.W.fnOf
  simp only [List.map_nil, List.nil_append, h6, e4, pure_bind, Option.getD_none, List.forIn_nil, e3, Bool.false_and, List.drop_nil, List.length_nil, Nat.sub_zero, List.take_length, e2, Bool.false_eq_true, if_false, List.isEmpty_nil, Bool.not_true, List.zip_nil_right, List.append_nil, e1]
/-- behind the keywords -/
theorem kw_names {ps ks : List Str} {us ws : List Value} {m : Nat} {p : List Nat} (hm : us.length = m) (hw : ws.length = ks.length) (hmp : m ≤ ps.length) (hp : ∀ j, j < ps.length → ∃ i, p[j]? = some i ∧ (ps.take m ++ ks)[i]? = ps[j]?) (hpl : p.length = ps.length) (nd : (ps.take m ++ ks).Nodup) :
    (ps.filterMap fun n => (((ps.take m).zip us ++ ks.zip ws).lookup n).map (n, ·)) = ps.zip (perm p us ws) ∧ ∀ z ∈ ps, ∃ v, ((ps.take m).zip us ++ ks.zip ws).lookup z = some v := by
  have hz : (ps.take m).zip us ++ ks.zip ws = (ps.take m ++ ks).zip (us ++ ws) := by
    rw [List.zip_append]
    rw [List.length_take]; omega
  have hlen : (us ++ ws).length = (ps.take m ++ ks).length := by
    rw [List.length_append, List.length_append, List.length_take]; omega
  have get : ∀ j, j < ps.length → ∃ i u, p[j]? = some i ∧ (us ++ ws)[i]? = some u ∧ (ps.take m ++ ks)[i]? = ps[j]? := fun j hj => by
    obtain ⟨i, h1, h2⟩ := hp j hj
    have h3 : ps[j]? = some ps[j] := List.getElem?_eq_getElem hj
    have hi : i < (us ++ ws).length := by
      rw [hlen]
      rw [h3] at h2
      exact (List.getElem?_eq_some_iff.mp h2).1
    exact ⟨i, _, h1, List.getElem?_eq_getElem hi, h2⟩
  have pl : ∀ (q : List Nat), (∀ i ∈ q, ∃ u, (us ++ ws)[i]? = some u) → (perm q us ws).length = q.length ∧ ∀ (j i : Nat), q[j]? = some i → (perm q us ws)[j]? = (us ++ ws)[i]? := by
    intro q
    induction q with
    | nil => intro _; exact ⟨rfl, fun j i h => by simp at h⟩
    | cons i q ih =>
      intro h
      obtain ⟨u, hu⟩ := h i (List.mem_cons_self ..)
      obtain ⟨a, b⟩ := ih fun k hk => h k (List.mem_cons_of_mem _ hk)
      unfold perm at a b ⊢
      rw [List.filterMap_cons, hu]
      refine ⟨congrArg (· + 1) a, fun j k hj => ?_⟩
      cases j with
      | zero =>
        have e : i = k := Option.some.inj hj
        subst e
        exact hu.symm
      | succ j => exact b j k hj
  obtain ⟨a, b⟩ := pl p fun i hi => by
    obtain ⟨j, hj⟩ := List.getElem?_of_mem hi
    have hjl : j < ps.length := by rw [← hpl]; exact (List.getElem?_eq_some_iff.mp hj).1
    obtain ⟨i', u, h1, h2, _⟩ := get j hjl
    rw [hj] at h1
    cases h1
    exact ⟨u, h2⟩
  refine ⟨look_all (by rw [a, hpl]) fun j x u h1 h2 => ?_, fun z hz0 => ?_⟩
  rotate_left
  · obtain ⟨j, hj⟩ := List.getElem?_of_mem hz0
    obtain ⟨i, u, _, g2, g3⟩ := get j (List.getElem?_eq_some_iff.mp hj).1
    exact ⟨u, by rw [hz]; exact lookup_zip (i := i) nd (by rw [g3]; exact hj) g2⟩
  have hjl : j < ps.length := (List.getElem?_eq_some_iff.mp h1).1
  obtain ⟨i, u', g1, g2, g3⟩ := get j hjl
  rw [b j i g1, g2] at h2
  cases h2
  rw [hz]
  exact lookup_zip (i := i) nd (by rw [g3]; exact h1) g2
theorem kwloop {ps : List Str} {f : Str × Value → List (Str × Value) × List (Str × Value) → Sem (ForInStep (List (Str × Value) × List (Str × Value)))} (hf : ∀ q s, q.1 ∈ ps → s.1.lookup q.1 = none → f q s = pure (.yield (s.1 ++ [(q.1, q.2)], s.2))) : ∀ (l : List (Str × Value)) (s : List (Str × Value) × List (Str × Value)),
    (∀ q ∈ l, q.1 ∈ ps) → (l.map (·.1)).Nodup → (∀ q ∈ l, s.1.lookup q.1 = none) → forIn l s f = (pure (s.1 ++ l, s.2) : Sem _)
  | [], s, _, _, _ => by simp
  | q :: l, s, h1, h2, h3 => by
    rw [List.map_cons, List.nodup_cons] at h2
    rw [List.forIn_cons, hf q s (h1 q (List.mem_cons_self ..)) (h3 q (List.mem_cons_self ..)), pure_bind]
    show forIn l (s.1 ++ [(q.1, q.2)], s.2) f = _
    rw [kwloop hf l _ (fun r hr => h1 r (List.mem_cons_of_mem _ hr)) h2.2 fun r hr => ?_]
    · simp
    · have hne : (r.1 == q.1) = false := beq_eq_false_iff_ne.mpr fun e => h2.1 (e ▸ List.mem_map_of_mem hr)
      show (s.1 ++ [(q.1, q.2)]).lookup r.1 = none
      rw [List.lookup_append, h3 r (List.mem_cons_of_mem _ hr)]
      show List.lookup r.1 [(q.1, q.2)] = none
      rw [List.lookup, hne] <;> rfl
theorem bind_kw {x qual : Str} {params : Arguments} {body : List Stmt} {scope : Scope} {kV doc pm cdv ct : Value} {an : Option Addr} {ps ks : List Str} {m : Nat} {p : List Nat} (h : plainP params ps = true) (hmp : m ≤ ps.length)
    (hp : ∀ j, j < ps.length → ∃ i, p[j]? = some i ∧ (ps.take m ++ ks)[i]? = ps[j]?) (hpl : p.length = ps.length) (nd : (ps.take m ++ ks).Nodup) (hk : ∀ k ∈ ks, k ∈ ps) (us ws : List Value) (hm : us.length = m) (hw : ws.length = ks.length) :
    bindArgs (PySem.W.fnOf x qual params body scope .none kV doc pm an cdv ct) ⟨us, ks.zip ws⟩ = pure (ps.zip (perm p us ws)) := by
  obtain ⟨po, ar, va, ko, kd, kw, df⟩ := params
  unfold plainP at h
  simp only [Bool.and_eq_true, decide_eq_true_eq, List.isEmpty_iff, Option.isNone_iff_eq_none] at h
  obtain ⟨⟨⟨⟨⟨⟨rfl, rfl⟩, rfl⟩, rfl⟩, rfl⟩, h6⟩, h7⟩ := h
  have e0 : ps.zip us = (ps.take m).zip us := by
    rw [← hm]
    rw [List.zip_eq_zip_take_min, Nat.min_eq_right (by omega), List.take_length]
  obtain ⟨e1, e5⟩ := kw_names (us := us) (ws := ws) hm hw hmp hp hpl nd
  have e3 : (decide (us.length > ps.length)) = false := decide_eq_false (by omega)
  have e4 : (seqItems? Value.none : Sem (Option (Array Value))) = pure none := rfl
  have e2 : (ps.filter fun n => (((ps.take m).zip us ++ ks.zip ws).lookup n).isNone) = [] := by
    rw [List.filter_eq_nil_iff]
    intro z hz
    obtain ⟨v, hv⟩ := e5 z hz
    rw [hv]
    simp
  unfold bindArgs PySem.W.fnOf
  simp only [List.map_nil, List.nil_append, h6, e4, pure_bind, Option.getD_none, List.forIn_nil, e3, Bool.false_and, List.drop_nil, List.length_nil, Nat.sub_zero, List.take_length, Bool.false_eq_true, if_false, List.isEmpty_nil, Bool.not_true, List.zip_nil_right, List.append_nil, e0]
  have hkm : ∀ q ∈ ks.zip ws, q.1 ∈ ps := fun q hq => hk _ (List.of_mem_zip hq).1
  have hmap : ((ks.zip ws).map (·.1)) = ks := by rw [List.map_fst_zip]; omega
  have ndk : ks.Nodup := (List.nodup_append.mp nd).2.1
  have hfr : ∀ q ∈ ks.zip ws, ((ps.take m).zip us).lookup q.1 = none := fun q hq => by
    rw [List.lookup_eq_none_iff]
    intro r hr
    have h8 := (List.of_mem_zip hq).1
    have h9 := (List.of_mem_zip hr).1
    rw [bne_iff_ne]
    exact fun e => (List.nodup_append.mp nd).2.2 _ h9 _ h8 e.symm
  rw [kwloop (ps := ps) (fun q s h8 h9 => ?_) (ks.zip ws) _ hkm (by rw [hmap]; exact ndk) hfr]
  · simp only [pure_bind, e2, List.isEmpty_nil, Bool.not_true, Bool.false_eq_true, if_false, e1]
  · have hc : ps.contains q.1 = true := List.contains_iff_mem.mpr h8
    simp only [hc, Bool.true_or, if_true, h9, Option.isSome_none, Bool.false_eq_true, if_false]

/-! ### the program -/
/-- one def: its name, where it stands in the text (parameters, body, scope), its slots' names, its parameters, its tree -/
structure Ent where
  name : Str
  params : Arguments
  body : List Stmt
  scope : Scope
  N : List Str
  ps : List Str
  code : Code
def fnsB (N ps : List Str) (sc : Scope) : Bool := (match sc.kind with
  | .function => true
  | _ => false) && !sc.isCoroutine && !sc.isGenerator && decide N.Nodup && decide (N.take ps.length = ps) && (ps.all fun x => match sc.names.lookup x with
  | some .local => true
  | some .cell => true
  | _ => false) && (sc.names.all fun y => match y.2 with
  | .free => false
  | _ => true)
theorem fns_ok {N ps : List Str} {sc : Scope} (h : fnsB N ps sc = true) : FnScope N ps sc := by
  unfold fnsB at h
  simp only [Bool.and_eq_true, Bool.not_eq_true', decide_eq_true_eq, List.all_eq_true] at h
  obtain ⟨⟨⟨⟨⟨⟨h1, h2⟩, h3⟩, h4⟩, h5⟩, h6⟩, h7⟩ := h
  refine ⟨?_, h2, h3, h4, h5, fun x hx => ?_, fun y hy e => ?_⟩
  · split at h1
    · assumption
    · cases h1
  · have q := h6 x hx
    split at q
    · exact .inl (by assumption)
    · exact .inr (by assumption)
    · cases q
  · have q := h7 y hy
    rw [e] at q
    cases q
def Gam.at_ (G : Gam) (N : List Str) : Gam := { G with N := N }
/-- the whole check of a def -/
def chkD (G : Gam) (e : Ent) : Bool := fnsB e.N e.ps e.scope && plainP e.params e.ps && decide (e.code.np = e.ps.length) && decide (e.code.ns = e.N.length) && decide (e.ps.length ≤ e.N.length) && chkSs (G.at_ e.N) e.code.body (fun _ => true) e.scope e.body
/-- the check of a call by keywords -/
def chkW (T : List Ent) (q : Str × Nat × List Str × List Nat) : Bool := T.all fun e => if e.name = q.1 then decide (q.2.1 ≤ e.ps.length) && decide (q.2.2.2.length = e.ps.length) && decide (e.ps.take q.2.1 ++ q.2.2.1).Nodup && (q.2.2.1.all fun k => decide (k ∈ e.ps)) &&
  ((List.range e.ps.length).all fun j => match q.2.2.2[j]? with
    | some i => decide ((e.ps.take q.2.1 ++ q.2.2.1)[i]? = e.ps[j]?)
    | none => false) else true
theorem vals_filterMap {vs zs : List V} {us ws : List Value} (a : Vals vs us) (b : Vals zs ws) : ∀ p : List Nat, Vals (perm p vs zs) (perm p us ws)
  | [] => .nil
  | i :: p => by
    have ih := vals_filterMap a b p
    have ab := a.append b
    unfold perm at ih ⊢
    cases q : (vs ++ zs)[i]? with
    | none =>
      rw [List.filterMap_cons, List.filterMap_cons, q, ab.none_of q]
      exact ih
    | some v =>
      obtain ⟨u, q', r⟩ := ab.get q
      rw [List.filterMap_cons, List.filterMap_cons, q, q']
      exact .cons r ih
def EntOk (P : Program) (w : World) (K : PySem.W.Frag) (mg : Str → Option Value) (base : Heap) (G : Gam) (Pg : Prg) (n : Nat) (e : Ent) : Prop :=
  ∀ a fd, mg e.name = some (.ref a) → FunD K e.name e.name e.params e.body e.scope [] [] a fd → PySem.W.keepIn K (.ref a) = true ∧ Binds K fd e.ps [] ∧
    (∀ m ks p, (e.name, m, ks, p) ∈ G.kws → KBn K fd e.ps m ks (fun us ws => perm p us ws) (fun vs zs => perm p vs zs)) ∧ FnG P w K mg base (L2.CX P w) n a fd e.ps (spD K (run Pg n) e.name e.ps.length)
def prgOf (T : List Ent) : Prg := T.map fun (e : Ent) => (e.name, e.code)
def fnsOf (T : List Ent) : List (Str × List Str) := T.map fun (e : Ent) => (e.name, e.ps)
theorem kbn_of {K : PySem.W.Frag} {e : Ent} {T : List Ent} {a : Addr} {fd : FuncData} {m : Nat} {ks : List Str} {p : List Nat} (F : FunD K e.name e.name e.params e.body e.scope [] [] a fd) (c2 : plainP e.params e.ps = true) (he : e ∈ T) (h : chkW T (e.name, m, ks, p) = true) : KBn K fd e.ps m ks (fun us ws => perm p us ws) (fun vs zs => perm p vs zs) := by
  unfold chkW at h
  have h := List.all_eq_true.mp h e he
  rw [if_pos rfl] at h
  simp only [Bool.and_eq_true, decide_eq_true_eq, List.all_eq_true] at h
  obtain ⟨⟨⟨⟨h1, h2⟩, h3⟩, h4⟩, h5⟩ := h
  obtain ⟨oc, od, dV, kV, doc, pm, an, cdv, ct, osl, rfl, lk, hcd, hD, hK⟩ := F.ex
  rcases hD with ⟨_, rfl⟩ | ⟨hne, _⟩
  · refine ⟨fun s us ws _ hu hw => .of_eq (bind_kw c2 h1 (fun j hj => ?_) h2 h3 h4 us ws hu hw), fun r1 r2 => vals_filterMap r1 r2 p⟩
    have q := h5 j (List.mem_range.mpr hj)
    split at q
    · rename_i i hi
      exact ⟨i, hi, of_decide_eq_true q⟩
    · cases q
  · exact absurd rfl hne
/-- what the head tells of the module -/
structure Hd (K : PySem.W.Frag) (mg : Str → Option Value) (G : Gam) (T : List Ent) : Prop where
  blt : ∀ x, x ∈ G.blt → mg x = none
  conI : ∀ x i, (x, i) ∈ G.conI → ∃ t, mg x = some (.int i t)
  conS : ∀ x i, (x, i) ∈ G.conS → ∃ t, mg x = some (.str i t)
  defs : ∀ e ∈ T, ∃ a fd, mg e.name = some (.ref a) ∧ FunD K e.name e.name e.params e.body e.scope [] [] a fd
theorem all_ok {P : Program} {w : World} {K : PySem.W.Frag} {mg : Str → Option Value} {base : Heap} {G : Gam} {T : List Ent} (h : Hd K mg G T) (hG : G.fns = fnsOf T) (hnd : ∀ e ∈ T, (prgOf T).lookup e.name = some e.code)
    (hc : ∀ e ∈ T, chkD G e = true) (hw : ∀ q ∈ G.kws, chkW T q = true) : ∀ n, ∀ e ∈ T, EntOk P w K mg base G (prgOf T) n e := by
  intro n
  induction n with
  | zero =>
    intro e he a fd hm F
    have ck := hc e he
    unfold chkD at ck
    simp only [Bool.and_eq_true, decide_eq_true_eq] at ck
    obtain ⟨⟨⟨⟨⟨c1, c2⟩, c3⟩, c4⟩, c4'⟩, c5⟩ := ck
    refine ⟨F.kp, FunD.bindsN F fun kV doc pm an cdv ct us hl => bind_plain c2 us hl, fun m ks p hk => ?_, ⟨fun vs H Q E q => ?_, fun A outer s H args us vs Q E _ _ _ _ _ q => ?_⟩⟩
    · exact kbn_of F c2 he (hw _ hk)
    · obtain ⟨_, _, _, _, _, _, _, _, _, hl, _⟩ := q
      exact hl
    · obtain ⟨_, _, _, _, _, _, _, _, e1, _⟩ := q
      cases e1
  | succ n ih =>
    intro e he a fd hm F
    have ck := hc e he
    unfold chkD at ck
    simp only [Bool.and_eq_true, decide_eq_true_eq] at ck
    obtain ⟨⟨⟨⟨⟨c1, c2⟩, c3⟩, c4⟩, c4'⟩, c5⟩ := ck
    refine ⟨F.kp, FunD.bindsN F fun kV doc pm an cdv ct us hl => bind_plain c2 us hl, fun m ks p hk => ?_, ?_⟩
    · exact kbn_of F c2 he (hw _ hk)
    · refine fn_G F (fns_ok c1) (fun vs H Q E q => ?_) (fun cdv A outer s H vs Q E gu hr q => ?_)
      · obtain ⟨_, _, _, _, _, _, _, _, _, hl, _⟩ := q
        exact hl
      · obtain ⟨w0, M, ds, d, M', rfl, R, p, e1, hl, k⟩ := q
        have lk := hnd e he
        have e2 : (match (prgOf T).lookup e.name with
          | none => Res.no
          | some c => if ds.length = c.np then (ex (run (prgOf T) n) c.body (ds.map some ++ List.replicate (c.ns - ds.length) none) M).bind fun fl M1 => (match fl with
              | .rt d => .ok d M1
              | .nx _ => .ok .non M1
              | _ => .no) else .no) = .ok d M' := e1
        rw [lk] at e2
        have e3 : (if ds.length = e.code.np then (ex (run (prgOf T) n) e.code.body (ds.map some ++ List.replicate (e.code.ns - ds.length) none) M).bind fun fl M1 => (match fl with
              | .rt d => .ok d M1
              | .nx _ => .ok .non M1
              | _ => .no) else .no) = .ok d M' := e2
        split at e3
        · rename_i hnp
          obtain ⟨fl, M1, e4, e5⟩ := Res.bind_eq_ok e3
          have g : Gd (cxOf (L2.CX P w) P w K mg base e.N e.name e.scope a cdv A outer s w0.H E).nox (G.at_ e.N) e.scope (fun _ => true) (run (prgOf T) n) n := by
            refine ⟨rfl, (fns_ok c1).nd, rfl, (fns_ok c1).kind, rfl, hr, gu, fun _ _ => rfl, h.blt, h.conI, h.conS, fun f ps hf => ?_⟩
            have hf' : (f, ps) ∈ fnsOf T := by rw [← hG]; exact hf
            obtain ⟨e', he', q⟩ := List.mem_map.mp hf'
            cases q
            obtain ⟨a', fd', hm', F'⟩ := h.defs e' he'
            exact ⟨a', fd', hm', ih e' he' a' fd' hm' F'⟩
          refine ⟨TSd K (run (prgOf T) n) e.code.body, PSs.nox (sndSs e.code.body g PassesOwn.never c5), ?_⟩
          refine ⟨w0, _, M, fl, M1, rfl, R, ?_, e4, ?_⟩
          · unfold L2.start
            rw [c4, ← p.length]
            refine ⟨by simp [p.length], fun i d' hi => ?_⟩
            by_cases hlt : i < ds.length
            · rw [List.getElem?_append_left (by simpa using hlt), List.getElem?_map] at hi
              obtain ⟨d2, hd2, hd3⟩ := Option.map_eq_some_iff.mp hi
              have hd4 : d2 = d' := Option.some.inj hd3
              subst hd4
              obtain ⟨v, hv, pv⟩ := p.get hd2
              refine ⟨v, ?_, pv⟩
              rw [List.getElem?_append_left (by rw [List.length_map, p.length]; exact hlt), List.getElem?_map, hv]
              rfl
            · rw [List.getElem?_append_right (by simpa using hlt), List.getElem?_replicate] at hi
              split at hi <;> cases hi
          · cases fl with
            | rt d1 => cases e5; exact fun w' v X1 R1 p1 => k w' v X1 R1 p1
            | nx ρ1 => cases e5; exact fun w' σ' X1 R1 _ => k w' .non X1 R1 .non
            | bk _ => cases e5
            | ct _ => cases e5
        · cases e3
end CZ

set_option Elab.async false
set_option linter.all false
set_option maxRecDepth 100000
set_option maxHeartbeats 16000000
/-! CZ13: the law's end. -/
namespace CZ
open PySem PySem.Spec PyProof.Rows L2 RZ

def Ent.dd (e : Ent) : He.DefD := ⟨(e.name, none), e.name, e.name, e.params, e.body, e.scope, [], []⟩
def fnL (T : List Ent) : List He.DefD := T.map Ent.dd
def faL (T : List Ent) (G : Gam) : List He.Fa := T.map (fun e => .glo e.name) ++ (G.blt.map .free ++ (G.conI.map (fun q => .int q.1 q.2) ++ G.conS.map fun q => .str q.1 q.2))
theorem fact_of {fa : List He.Fa} {fn : List He.DefD} {K : PySem.W.Frag} (c : He.SaysD fa fn K) {f : He.Fa} (h : f ∈ fa) : f.ok K = true := by
  obtain ⟨i, hi⟩ := List.getElem?_of_mem h
  exact c.fact i hi
theorem hd_of {K : PySem.W.Frag} {h : Heap} {mg : Str → Option Value} {T : List Ent} {G : Gam} (X : K.In h) (N : h.Ns mainGlobals mg) (c : He.SaysD (faL T G) (fnL T) K) : Hd K mg G T where
  blt := fun x hx => He.free_ok X N (fact_of c (by
    unfold faL
    exact List.mem_append_right _ (List.mem_append_left _ (List.mem_map_of_mem hx))))
  conI := fun x i hx => He.int_ok X N (fact_of c (by
    unfold faL
    exact List.mem_append_right _ (List.mem_append_right _ (List.mem_append_left _ (List.mem_map.mpr ⟨_, hx, rfl⟩)))))
  conS := fun x i hx => He.str_ok X N (fact_of c (by
    unfold faL
    exact List.mem_append_right _ (List.mem_append_right _ (List.mem_append_right _ (List.mem_map.mpr ⟨_, hx, rfl⟩)))))
  defs := fun e he => by
    obtain ⟨i, hi⟩ := List.getElem?_of_mem (List.mem_map_of_mem (f := Ent.dd) he)
    obtain ⟨fd, F⟩ := c.def_ (d := e.dd) i hi
    exact ⟨_, fd, He.glo_ok X N (fact_of c (by
      unfold faL
      exact List.mem_append_left _ (List.mem_map.mpr ⟨e, he, rfl⟩))), F⟩
theorem locked_only {K : PySem.W.Frag} {H : Hp} {a : Addr} {xs : List V} (hO : Only H) (h : SqL K H a xs) : SqL K (locked H) a xs := by
  have lk : ∀ o xs, H a = some (.frz o (.lst xs)) → locked H a = some (.frz o (.lst xs)) := fun o ys e => by unfold locked; rw [e]
  rcases h with (h | ⟨o, h⟩) | h
  · rcases hO a with e | ⟨o, ys, e⟩
    · rw [e] at h; cases h
    · rw [e] at h; cases h
  · rcases hO a with e | ⟨o', ys, e⟩
    · rw [e] at h; cases h
    · rw [e] at h
      cases h
      exact .inl (.inr ⟨_, lk _ _ e⟩)
  · exact .inr h
/-- the law's promise -/
def lawW (H : Hp) : Wd := ⟨fun _ => False, [], H⟩
theorem lawR {K : PySem.W.Frag} {H : Hp} : RS K (lawW H) [] := ⟨rfl, List.nodup_nil, fun a h => absurd h (by simp [lawW]), fun a h => False.elim h, fun i o a h => by simp at h⟩
theorem law_sp {K : PySem.W.Frag} {Φ : Orac} {H : Hp} {a : Addr} {ns : List Int} {M' : Store} (hO : Only H) (hS : SqL K H a (ns.map V.int)) (e : Φ "law" [.scr ns] [] = .ok (.bl true) M') :
    spD K Φ "law" 1 [.ref a] H (fun v _ => v = .bl true) fun _ _ _ => False :=
  ⟨lawW H, [], [.scr ns], _, M', rfl, lawR, .cons (.scr (locked_only hO hS)) .nil, e, rfl, fun w' v X R p => by cases p; rfl⟩
theorem law_end {P : Program} {w : World} {K : PySem.W.Frag} {h : Heap} {mg : Str → Option Value} {fa : Addr} {T : List Ent} {G : Gam} {n m : Nat} (X : K.In h) (N : h.Ns mainGlobals mg) (hmg : mg "law" = some (.ref fa)) (c : He.SaysD (faL T G) (fnL T) K) (hG : G.fns = fnsOf T)
    (hnd : ∀ e ∈ T, (prgOf T).lookup e.name = some e.code) (hc : ∀ e ∈ T, chkD G e = true) (hw : ∀ q ∈ G.kws, chkW T q = true) (hl : ∃ e ∈ T, e.name = ("law" : Str) ∧ e.ps = [("script" : Str)])
    (hrun : ∀ ns : List Int, ns.length ≤ m → ∃ M', run (prgOf T) n "law" [.scr ns] [] = .ok (.bl true) M') :
    ∃ (K : PySem.W.Frag) (fd : FuncData) (sp : Sp), K.In h ∧ (∀ (s : Shared) (u : Value), BindsTo s fd ⟨[u], []⟩ [("script", u)]) ∧
        (∀ (H : Hp) (a : Addr) (ns : List Int), ns.length ≤ m → Only H → SqL K H a (ns.map V.int) → sp [.ref a] H (fun v _ => v = .bl true) fun _ _ _ => False) ∧
        ∀ base : Heap, K.In base → base.Ns mainGlobals mg → FnG P w K mg base (L2.CX P w) n fa fd [("script" : Str)] sp := by
  obtain ⟨e, he, h1, h2⟩ := hl
  have D := hd_of X N c
  obtain ⟨a, fd, hm, F⟩ := D.defs e he
  have ea : a = fa := by
    rw [h1, hmg] at hm
    cases hm
    rfl
  subst ea
  have ck := hc e he
  unfold chkD at ck
  simp only [Bool.and_eq_true, decide_eq_true_eq] at ck
  obtain ⟨⟨⟨⟨⟨c1, c2⟩, c3⟩, c4⟩, c4'⟩, c5⟩ := ck
  refine ⟨K, fd, spD K (run (prgOf T) n) "law" 1, X, fun s u => ?_, fun H a ns hn hO hS => ?_, fun base _ _ => ?_⟩
  · have b := FunD.bindsA (ps := e.ps) F (fun kV doc pm an cdv ct us hl => bind_plain c2 us hl) s [u] (by rw [h2] <;> rfl)
    rw [h2] at b
    exact b
  · obtain ⟨M', hr⟩ := hrun ns hn
    exact law_sp hO hS hr
  · obtain ⟨_, _, _, ok⟩ := all_ok (P := P) (w := w) (base := base) D hG hnd hc hw n e he a fd hm F
    rw [h1, h2] at ok
    exact ok
theorem lookup_prg : ∀ {T : List Ent}, (T.map fun e => e.name).Nodup → ∀ e ∈ T, (prgOf T).lookup e.name = some e.code
  | [], _, _, h => nomatch h
  | d :: T, nd, e, h => by
    rw [List.map_cons, List.nodup_cons] at nd
    show List.lookup e.name ((d.name, d.code) :: prgOf T) = some e.code
    rcases List.mem_cons.mp h with rfl | h
    · rw [List.lookup, beq_self_eq_true]
    · have hne : (e.name == d.name) = false := beq_eq_false_iff_ne.mpr fun q => nd.1 (q ▸ List.mem_map_of_mem (f := fun e => e.name) h)
      rw [List.lookup, hne]
      exact lookup_prg nd.2 e h
theorem cx_none {P : Program} {w : World} {H : Hp} {s s' : Shared} {e : Value} (h : L2.CX P w [] H s (fun _ _ _ => False) e s') : False := by
  obtain ⟨_, _, _, _, _, _, _, _, _, _, _, _, z⟩ := h
  exact z
/-- what stands under the law's call: the script, if it is none of the module's own objects -/
theorem law_core {P : Program} {w : World} {K : PySem.W.Frag} {mg mb : Str → Option Value} {k : Nat} {fa a : Addr} {fd : FuncData} {x : Str} {sp : Sp} {s₁ : Shared} {vs : List Value} {ns : List Int} {H : Hp}
    (KX : K.In s₁.heap) (hns : s₁.heap.Ns mainGlobals mg) (hb : s₁.heap.Ns builtinsNs mb) (hbb : ∀ x : Str, x ≠ "__name__" → mb x = bootBuiltins x) (hlim : s₁.heap.NoLimit) (hg : s₁.gens = #[])
    (ha : s₁.heap.get? a = some { cls := .type "list", data := .seq vs.toArray }) (hr : Room k callerA) (F : ∀ base : Heap, K.In base → base.Ns mainGlobals mg → FnG P w K mg base (L2.CX P w) k fa fd [x] sp)
    (hbind : ∀ (s : Shared) (u : Value), BindsTo s fd ⟨[u], []⟩ [(x, u)]) (hsp : sp [.ref a] H (fun v _ => v = .bl true) fun _ _ _ => False) (hO : Only H) (hok : HOk P w H s₁.heap) (hA : ∀ b, H b ≠ none → b = a) (hK : H a ≠ none → K.lookup a = none) :
    codeAny (model P w) callerA (.call (.ref fa) ⟨[.ref a], []⟩) (fun r s' => r = .ok (.ret (.bool true)) ∧ OldK s₁.heap s'.heap ∧ s'.os = s₁.os ∧ AllBare s'.gens) s₁ := by
  have out : ∀ {b : Addr}, (b ≠ a ∨ H a = none) → H b = none := by
    intro b hb
    cases q : H b with
    | none => rfl
    | some u =>
      have e := hA b (by rw [q]; exact fun z => by cases z)
      subst e
      rcases hb with hb | hb
      · exact absurd rfl hb
      · rw [hb] at q; cases q
  have dictNot : ∀ {b : Addr} {o : Obj} {es : Array DictEntry} {ep : Nat}, s₁.heap.get? b = some o → o.data = .dict es ep → H b = none := by
    intro b o es ep e d
    refine out (.inl fun z => ?_)
    subst z
    rw [ha] at e
    cases e
    cases (show Data.seq vs.toArray _ = Data.dict es ep from d)
  have nsHid : ∀ {b : Addr} {m : Str → Option Value}, s₁.heap.Ns b m → (hidT s₁.heap H).Ns b m := by
    rintro b m ⟨o, es, ep, e, d, r⟩
    exact ⟨o, es, ep, hidT_get e (dictNot e d), d, r⟩
  have kHid : K.In (hidT s₁.heap H) := by
    intro b o e
    refine hidT_get (KX b o e) (out ?_)
    by_cases z : b = a
    · subst z
      refine .inr ?_
      cases q : H b with
      | none => rfl
      | some u =>
        have n := hK (by rw [q]; exact fun z => by cases z)
        rw [n] at e
        cases e
    · exact .inl z
  have M : Mod K mg (hidT s₁.heap H) := ⟨kHid, nsHid hns, ⟨mb, nsHid hb, hbb⟩, by obtain ⟨mc, h1, h2⟩ := hlim; exact ⟨mc, nsHid h1, h2⟩⟩
  have e0 : Env0 P w K mg (hidT s₁.heap H) callerA [] s₁ H := by
    refine ⟨rfl, M, fun b o e => of_hidT e, Nat.le_of_eq (hidT_size _ _), trivial, ?_, hok, .of_eq hg⟩
    intro b hb
    exact absurd (show b ∈ ([] : List Addr) from hb) List.not_mem_nil
  have run := (F _ kHid (nsHid hns)).go callerA [] s₁ H ⟨[.ref a], []⟩ [.ref a] [.ref a] _ _ rfl hr e0 (hbind s₁ (.ref a)) (.cons rfl .nil) hsp
  refine codeAny_mono run ?_
  intro r s' h
  rcases r with e | fl
  · exact (cx_none h).elim
  · cases fl with
    | ret u =>
      obtain ⟨v, H', os, bare, un, hok', r', q⟩ := h
      subst q
      cases r'
      refine ⟨rfl, OldK.of_keep ?_, os, bare⟩
      intro b o e
      rcases hO b with z | ⟨ob, xs, z⟩
      · exact un.keep b o e z (fun y => absurd (show b ∈ ([] : List Addr) from y) List.not_mem_nil) List.not_mem_nil
      · have e1 := (hok b _ z).1
        have e2 := (hok' b _ (un.frzs b ob _ z)).1
        rw [e] at e1
        cases e1
        exact e2
    | _ => exact False.elim h
theorem law_callG {P : Program} {w : World} {K : PySem.W.Frag} {mg mb : Str → Option Value} {k : Nat} {fa a : Addr} {fd : FuncData} {x : Str} {sp : Sp} {s₁ : Shared} {vs : List Value} {ns : List Int}
    (KX : K.In s₁.heap) (hns : s₁.heap.Ns mainGlobals mg) (hb : s₁.heap.Ns builtinsNs mb) (hbb : ∀ x : Str, x ≠ "__name__" → mb x = bootBuiltins x) (hlim : s₁.heap.NoLimit) (hg : s₁.gens = #[])
    (ha : s₁.heap.get? a = some { cls := .type "list", data := .seq vs.toArray }) (hi : IntsAre vs ns) (hl : ns.length ≤ sizeLine) (hr : Room k callerA) (F : ∀ base : Heap, K.In base → base.Ns mainGlobals mg → FnG P w K mg base (L2.CX P w) k fa fd [x] sp)
    (hbind : ∀ (s : Shared) (u : Value), BindsTo s fd ⟨[u], []⟩ [(x, u)]) (hsp : ∀ H : Hp, Only H → SqL K H a (ns.map V.int) → sp [.ref a] H (fun v _ => v = .bl true) fun _ _ _ => False) :
    codeAny (model P w) callerA (.call (.ref fa) ⟨[.ref a], []⟩) (fun r s' => r = .ok (.ret (.bool true)) ∧ OldK s₁.heap s'.heap ∧ s'.os = s₁.os ∧ AllBare s'.gens) s₁ := by
  have rv := vals_ints hi
  have nv := hi.length
  cases hk : K.lookup a with
  | some o =>
    have e := KX a o hk
    rw [ha] at e
    cases e
    have hO : Only fun _ => none := fun _ => .inl rfl
    have hS : SqL K (fun _ => none) a (ns.map V.int) := .inr ⟨_, vs.toArray, _, hk, rfl, rfl, rfl, by rw [List.size_toArray, nv]; exact hl, by simpa using rv⟩
    exact law_core (ns := ns) KX hns hb hbb hlim hg ha hr F hbind (hsp _ hO hS) hO (by intro b u z; cases (show (none : Option HO) = some u from z)) (fun b z => absurd rfl z) fun z => absurd rfl z
  | none =>
    let H : Hp := fun b => if b = a then some (.frz { cls := .type "list", data := .seq vs.toArray } (.lst (ns.map V.int))) else none
    have Ha : H a = some (.frz { cls := .type "list", data := .seq vs.toArray } (.lst (ns.map V.int))) := if_pos rfl
    have Hn : ∀ {b}, b ≠ a → H b = none := fun h => if_neg h
    have hO : Only H := by
      intro b
      by_cases hb : b = a
      · subst hb; exact .inr ⟨_, _, Ha⟩
      · exact .inl (Hn hb)
    have hok : HOk P w H s₁.heap := by
      intro b u z
      by_cases hb : b = a
      · subst hb
        rw [Ha] at z
        cases z
        exact ⟨ha, by rw [List.length_map]; exact hl, vs, _, rv, ha⟩
      · rw [Hn hb] at z
        cases z
    refine law_core (ns := ns) KX hns hb hbb hlim hg ha hr F hbind (hsp H hO (.inl (.inr ⟨_, Ha⟩))) hO hok ?_ fun _ => hk
    intro b z
    by_cases hb : b = a
    · exact hb
    · exact absurd (Hn hb) z
/-- the walk's end, what a def lets out told by the world -/
theorem walk_cz {l : PySem.W.OpenLaw} {n k : Nat} {q : Program} {loose : List Str} {XP : (Str → Option Value) → Heap → Prop} {YP : World → Heap → Prop} {d : DefRec} {x : Str} (hn : l.most = some n) (hn2 : n ≤ sizeLine) (hdf : d.params.defaults = []) (hr : Room k callerA)
    (F : ∀ (w : World) (mg : Str → Option Value) (fa : Addr) (h : Heap), YP w h → h.Ns mainGlobals mg → mg d.name = some (.ref fa) →
      ∃ (K : PySem.W.Frag) (fd : FuncData) (sp : Sp), K.In h ∧ (∀ (s : Shared) (u : Value), BindsTo s fd ⟨[u], []⟩ [(x, u)]) ∧
        (∀ (H : Hp) (a : Addr) (ns : List Int), ns.length ≤ n → Only H → SqL K H a (ns.map V.int) → sp [.ref a] H (fun v _ => v = .bl true) fun _ _ _ => False) ∧
        ∀ base : Heap, K.In base → base.Ns mainGlobals mg → FnG l.prog w K mg base (L2.CX l.prog w) k fa fd [x] sp) :
    PySem.W.WalkO q loose XP YP l.row.toRowW d [] (fun f vs => PySem.call f vs) := by
  refine Att.attach_call hn hdf fun w s0 s1 mg mb fa o pm cd doc a vs ns T Y ho hd hcd hmg hobj hints hlen hg => ?_
  obtain ⟨K, fd, sp, KX, hb, hsp, hF⟩ := F w mg fa _ Y T.T.g hmg
  exact law_callG KX T.T.g T.T.b T.T.builtins T.T.nolimit hg hobj hints (Nat.le_trans hlen hn2) hr hF hb fun H hO hS => hsp H a ns hlen hO hS
end CZ

set_option Elab.async false
set_option linter.all false
set_option maxRecDepth 100000
set_option maxHeartbeats 4000000
/-! CZ14: plain tools: what runs and ends so. -/
namespace CZ
open PySem

/-- r ends well, and Q holds behind -/
def WP {α : Type} (r : Res α) (Q : α → Store → Prop) : Prop := ∃ a M, r = .ok a M ∧ Q a M
@[simp] theorem WP_ok {α : Type} {a : α} {M : Store} {Q : α → Store → Prop} : WP (.ok a M) Q ↔ Q a M := ⟨fun ⟨_, _, e, h⟩ => by cases e; exact h, fun h => ⟨a, M, rfl, h⟩⟩
@[simp] theorem WP_no {α : Type} {Q : α → Store → Prop} : WP (.no : Res α) Q ↔ False := ⟨fun ⟨_, _, e, _⟩ => (by cases e), False.elim⟩
@[simp] theorem WP_er {α : Type} {x : Xn} {M : Store} {Q : α → Store → Prop} : WP (.er x M : Res α) Q ↔ False := ⟨fun ⟨_, _, e, _⟩ => (by cases e), False.elim⟩
theorem WP_bind {α β : Type} {r : Res α} {f : α → Store → Res β} {Q : β → Store → Prop} (h : WP r fun a M => WP (f a M) Q) : WP (r.bind f) Q := by
  obtain ⟨a, M, rfl, h⟩ := h
  exact h
theorem WP.mono {α : Type} {r : Res α} {Q Q' : α → Store → Prop} (h : WP r Q) (i : ∀ a M, Q a M → Q' a M) : WP r Q' := by
  obtain ⟨a, M, e, h⟩ := h
  exact ⟨a, M, e, i a M h⟩
theorem WP_of_eq {α : Type} {r : Res α} {a : α} {M : Store} {Q : α → Store → Prop} (e : r = .ok a M) (h : Q a M) : WP r Q := ⟨a, M, e, h⟩
theorem Res.bind_assoc {α β γ : Type} (r : Res α) (f : α → Store → Res β) (g : β → Store → Res γ) : (r.bind f).bind g = r.bind fun a M => (f a M).bind g := by
  cases r <;> rfl
@[simp] theorem bind_opt_some {α β : Type} (a : α) (M : Store) (f : α → Store → Res β) : (opt (some a) M).bind f = f a M := Eq.trans rfl rfl
theorem bind_ite {α β : Type} (p : Prop) [Decidable p] (r s : Res α) (f : α → Store → Res β) : (if p then r else s).bind f = if p then r.bind f else s.bind f := by split <;> rfl

def retF (fl : Fl) (M : Store) : Res D := match fl with
  | .rt d => .ok d M
  | .nx _ => .ok .non M
  | _ => .no
@[simp] theorem retF_rt (d : D) (M : Store) : retF (.rt d) M = .ok d M := Eq.trans rfl rfl
@[simp] theorem retF_nx (ρ : Env') (M : Store) : retF (.nx ρ) M = .ok .non M := Eq.trans rfl rfl
noncomputable def seqF (Φ : Orac) (b : S) (f : Fl) (M : Store) : Res Fl := match f with
  | .nx ρ1 => ex Φ b ρ1 M
  | f => .ok f M
@[simp] theorem seqF_nx (Φ : Orac) (b : S) (ρ : Env') (M : Store) : seqF Φ b (.nx ρ) M = ex Φ b ρ M := Eq.trans rfl rfl
@[simp] theorem seqF_rt (Φ : Orac) (b : S) (d : D) (M : Store) : seqF Φ b (.rt d) M = .ok (.rt d) M := Eq.trans rfl rfl
@[simp] theorem seqF_bk (Φ : Orac) (b : S) (ρ : Env') (M : Store) : seqF Φ b (.bk ρ) M = .ok (.bk ρ) M := Eq.trans rfl rfl
@[simp] theorem seqF_ct (Φ : Orac) (b : S) (ρ : Env') (M : Store) : seqF Φ b (.ct ρ) M = .ok (.ct ρ) M := Eq.trans rfl rfl
@[simp] theorem ex_seq (Φ : Orac) (a b : S) (ρ : Env') (M : Store) : ex Φ (.seq a b) ρ M = (ex Φ a ρ M).bind (seqF Φ b) := Eq.trans rfl rfl
@[simp] theorem ex_skip (Φ : Orac) (ρ : Env') (M : Store) : ex Φ .skip ρ M = .ok (.nx ρ) M := Eq.trans rfl rfl
@[simp] theorem ex_brk (Φ : Orac) (ρ : Env') (M : Store) : ex Φ .brk ρ M = .ok (.bk ρ) M := Eq.trans rfl rfl
@[simp] theorem ex_set (Φ : Orac) (i : Nat) (c : C) (ρ : Env') (M : Store) : ex Φ (.set i c) ρ M = (ev Φ c ρ M).bind fun d M1 => .ok (.nx (ρ.set i (some d))) M1 := Eq.trans rfl rfl
def unpF (is : List Nat) (ρ : Env') (d : D) (M1 : Store) : Res Fl := match setT (.tp is) d ρ with
    | some ρ1 => .ok (.nx ρ1) M1
    | none => .no
@[simp] theorem ex_unp (Φ : Orac) (is : List Nat) (c : C) (ρ : Env') (M : Store) : ex Φ (.unp is c) ρ M = (ev Φ c ρ M).bind (unpF is ρ) := Eq.trans rfl rfl
@[simp] theorem ex_unp2 (Φ : Orac) (is js : List Nat) (c : C) (ρ : Env') (M : Store) : ex Φ (.unp2 is js c) ρ M = (ev Φ c ρ M).bind fun d M1 => (opt (setT2 is js d ρ) M1).bind fun ρ1 M1 => .ok (.nx ρ1) M1 := Eq.trans rfl rfl
@[simp] theorem unpF_tup (is : List Nat) (ρ : Env') (xs : List D) (M : Store) (h : xs.length = is.length) : unpF is ρ (.tup xs) M = .ok (.nx ((is.zip xs).foldl (fun r p => r.set p.1 (some p.2)) ρ)) M := by
  unfold unpF setT
  simp [h]
@[simp] theorem unpF_lst (is : List Nat) (ρ : Env') (xs : List D) (M : Store) (h : xs.length = is.length) : unpF is ρ (.lst xs) M = .ok (.nx ((is.zip xs).foldl (fun r p => r.set p.1 (some p.2)) ρ)) M := by
  unfold unpF setT
  simp [h]
@[simp] theorem ex_par2 (Φ : Orac) (i j : Nat) (a b : C) (ρ : Env') (M : Store) : ex Φ (.par2 i j a b) ρ M = (ev Φ a ρ M).bind fun x M1 => (ev Φ b ρ M1).bind fun y M2 => .ok (.nx ((ρ.set i (some x)).set j (some y))) M2 := Eq.trans rfl rfl
@[simp] theorem ex_par3 (Φ : Orac) (i j l : Nat) (a b c : C) (ρ : Env') (M : Store) : ex Φ (.par3 i j l a b c) ρ M = (ev Φ a ρ M).bind fun x M1 => (ev Φ b ρ M1).bind fun y M2 => (ev Φ c ρ M2).bind fun z M3 => .ok (.nx (((ρ.set i (some x)).set j (some y)).set l (some z))) M3 := Eq.trans rfl rfl
@[simp] theorem ex_sti (Φ : Orac) (o i c : C) (ρ : Env') (M : Store) : ex Φ (.sti o i c) ρ M = (ev Φ c ρ M).bind fun d M1 => (ev Φ o ρ M1).bind fun x M2 => (ev Φ i ρ M2).bind fun y M3 => (sti x y d M3).bind fun _ M4 => .ok (.nx ρ) M4 := Eq.trans rfl rfl
@[simp] theorem ex_exp (Φ : Orac) (c : C) (ρ : Env') (M : Store) : ex Φ (.exp c) ρ M = (ev Φ c ρ M).bind fun _ M1 => .ok (.nx ρ) M1 := Eq.trans rfl rfl
@[simp] theorem ex_ret (Φ : Orac) (c : C) (ρ : Env') (M : Store) : ex Φ (.ret c) ρ M = (ev Φ c ρ M).bind fun d M1 => .ok (.rt d) M1 := Eq.trans rfl rfl
@[simp] theorem ex_ife (Φ : Orac) (c : C) (a b : S) (ρ : Env') (M : Store) : ex Φ (.ife c a b) ρ M = (tst Φ c ρ M).bind fun t M1 => if t then ex Φ a ρ M1 else ex Φ b ρ M1 := Eq.trans rfl rfl
@[simp] theorem ex_loop (Φ : Orac) (tg : Tg) (it : It) (b : S) (ρ : Env') (M : Store) : ex Φ (.loop tg it b) ρ M = (evI Φ it ρ M).bind fun xs M1 => forL (ex Φ b) tg xs ρ M1 := Eq.trans rfl rfl
@[simp] theorem ex_while (Φ : Orac) (c : C) (b : S) (ρ : Env') (M : Store) : ex Φ (.while c b) ρ M = whileL (tst Φ c) (ex Φ b) ρ M := Eq.trans rfl rfl
def gfzF (i : Nat) (ρ : Env') (M : Store) : Res Fl := match ρ[i]? with
    | some (some d) => (frzD d M).bind fun d M1 => .ok (.nx (ρ.set i (some d))) M1
    | _ => .no
@[simp] theorem ex_gfz (Φ : Orac) (i : Nat) (ρ : Env') (M : Store) : ex Φ (.gfz i) ρ M = gfzF i ρ M := Eq.trans rfl rfl
/-- a slot -/
def slotF (o : Option (Option D)) (M : Store) : Res D := match o with
  | some (some d) => .ok d M
  | _ => .no
@[simp] theorem slotF_some (d : D) (M : Store) : slotF (some (some d)) M = .ok d M := Eq.trans rfl rfl
@[simp] theorem ev_var (Φ : Orac) (i : Nat) (ρ : Env') (M : Store) : ev Φ (.var i) ρ M = slotF ρ[i]? M := Eq.trans rfl rfl
@[simp] theorem ev_kN (Φ : Orac) (ρ : Env') (M : Store) : ev Φ .kN ρ M = .ok .non M := Eq.trans rfl rfl
@[simp] theorem ev_kB (Φ : Orac) (b : Bool) (ρ : Env') (M : Store) : ev Φ (.kB b) ρ M = .ok (.bl b) M := Eq.trans rfl rfl
@[simp] theorem ev_kI (Φ : Orac) (i : Int) (ρ : Env') (M : Store) : ev Φ (.kI i) ρ M = .ok (.int i) M := Eq.trans rfl rfl
@[simp] theorem ev_kS (Φ : Orac) (i : Str) (ρ : Env') (M : Store) : ev Φ (.kS i) ρ M = .ok (.str i) M := Eq.trans rfl rfl
@[simp] theorem ev_glo (Φ : Orac) (x : Str) (d : D) (ρ : Env') (M : Store) : ev Φ (.glo x d) ρ M = .ok d M := Eq.trans rfl rfl
@[simp] theorem ev_bin (Φ : Orac) (o : BO) (a b : C) (ρ : Env') (M : Store) : ev Φ (.bin o a b) ρ M = (ev Φ a ρ M).bind fun x M1 => (ev Φ b ρ M1).bind fun y M2 => opt (bop o x y) M2 := Eq.trans rfl rfl
@[simp] theorem ev_cmp (Φ : Orac) (o : CO) (a b : C) (ρ : Env') (M : Store) : ev Φ (.cmp o a b) ρ M = (ev Φ a ρ M).bind fun x M1 => (ev Φ b ρ M1).bind fun y M2 => opt ((cop o (x.look M2) (y.look M2)).map .bl) M2 := Eq.trans rfl rfl
def isNon : D → Bool
  | .non => true
  | _ => false
@[simp] theorem isNon_non : isNon .non = true := Eq.trans rfl rfl
@[simp] theorem isNon_int (i : Int) : isNon (.int i) = false := Eq.trans rfl rfl
@[simp] theorem isNon_bl (i : Bool) : isNon (.bl i) = false := Eq.trans rfl rfl
@[simp] theorem isNon_str (i : Str) : isNon (.str i) = false := Eq.trans rfl rfl
@[simp] theorem isNon_tup (i : List D) : isNon (.tup i) = false := Eq.trans rfl rfl
@[simp] theorem isNon_lst (i : List D) : isNon (.lst i) = false := Eq.trans rfl rfl
@[simp] theorem ev_isN (Φ : Orac) (a : C) (ρ : Env') (M : Store) : ev Φ (.isN a) ρ M = (ev Φ a ρ M).bind fun x M1 => .ok (.bl (isNon x)) M1 := by
  show (ev Φ a ρ M).bind _ = _
  congr 1
@[simp] theorem ev_notN (Φ : Orac) (a : C) (ρ : Env') (M : Store) : ev Φ (.notN a) ρ M = (ev Φ a ρ M).bind fun x M1 => .ok (.bl (!isNon x)) M1 := by
  show (ev Φ a ρ M).bind _ = _
  congr 1
  funext x M1
  cases x <;> rfl
noncomputable def andF (Φ : Orac) (b : C) (ρ : Env') (x : D) (M1 : Store) : Res D := match tru (x.look M1) with
    | some true => ev Φ b ρ M1
    | some false => .ok x M1
    | none => .no
@[simp] theorem ev_and (Φ : Orac) (a b : C) (ρ : Env') (M : Store) : ev Φ (.and a b) ρ M = (ev Φ a ρ M).bind (andF Φ b ρ) := Eq.trans rfl rfl
@[simp] theorem andF_bl (Φ : Orac) (b : C) (ρ : Env') (t : Bool) (M : Store) : andF Φ b ρ (.bl t) M = if t then ev Φ b ρ M else .ok (.bl t) M := by cases t <;> rfl
noncomputable def orF (Φ : Orac) (b : C) (ρ : Env') (x : D) (M1 : Store) : Res D := match tru (x.look M1) with
    | some false => ev Φ b ρ M1
    | some true => .ok x M1
    | none => .no
@[simp] theorem ev_or (Φ : Orac) (a b : C) (ρ : Env') (M : Store) : ev Φ (.or a b) ρ M = (ev Φ a ρ M).bind (orF Φ b ρ) := Eq.trans rfl rfl
@[simp] theorem orF_bl (Φ : Orac) (b : C) (ρ : Env') (t : Bool) (M : Store) : orF Φ b ρ (.bl t) M = if t then .ok (.bl t) M else ev Φ b ρ M := by cases t <;> rfl
def truF (d : D) (M1 : Store) : Res Bool := opt (tru (d.look M1)) M1
@[simp] theorem truF_bl (t : Bool) (M : Store) : truF (.bl t) M = .ok t M := Eq.trans rfl rfl
@[simp] theorem truF_int (i : Int) (M : Store) : truF (.int i) M = .ok (decide (i ≠ 0)) M := Eq.trans rfl rfl
@[simp] theorem tst_eq (Φ : Orac) (c : C) (ρ : Env') (M : Store) : tst Φ c ρ M = (ev Φ c ρ M).bind truF := Eq.trans rfl rfl
@[simp] theorem tstR_eq (r : Res D) : tstR r = r.bind truF := Eq.trans rfl rfl
@[simp] theorem ev_not (Φ : Orac) (a : C) (ρ : Env') (M : Store) : ev Φ (.not a) ρ M = ((ev Φ a ρ M).bind truF).bind fun b M1 => .ok (.bl (!b)) M1 := Eq.trans rfl rfl
@[simp] theorem ev_ifx (Φ : Orac) (c a b : C) (ρ : Env') (M : Store) : ev Φ (.ifx c a b) ρ M = ((ev Φ c ρ M).bind truF).bind fun t M1 => if t then ev Φ a ρ M1 else ev Φ b ρ M1 := Eq.trans rfl rfl
@[simp] theorem ev_tup (Φ : Orac) (es : Cs) (ρ : Env') (M : Store) : ev Φ (.tup es) ρ M = (evs Φ es ρ M).bind fun ds M1 => if ds.length ≤ sizeLine then .ok (.tup ds) M1 else .no := Eq.trans rfl rfl
@[simp] theorem ev_lst (Φ : Orac) (r : Bool) (es : Cs) (ρ : Env') (M : Store) : ev Φ (.lst r es) ρ M = (evs Φ es ρ M).bind fun ds M1 => if ds.length ≤ sizeLine then mkL r ds M1 else .no := Eq.trans rfl rfl
@[simp] theorem ev_idx (Φ : Orac) (a b : C) (ρ : Env') (M : Store) : ev Φ (.idx a b) ρ M = (ev Φ a ρ M).bind fun x M1 => (ev Φ b ρ M1).bind fun y M2 => opt (ixD (x.look M2) y) M2 := Eq.trans rfl rfl
@[simp] theorem ev_slc (Φ : Orac) (a lo hi : C) (ρ : Env') (M : Store) : ev Φ (.slc a lo hi) ρ M = (ev Φ a ρ M).bind fun x M1 => (ev Φ lo ρ M1).bind fun l M2 => (ev Φ hi ρ M2).bind fun h M3 =>
      opt ((partC lo l).bind fun l => (partC hi h).bind fun h => slD (x.look M3) l h) M3 := rfl
@[simp] theorem ev_call (Φ : Orac) (f : Str) (k : Nat) (es : Cs) (ρ : Env') (M : Store) : ev Φ (.call f k es) ρ M = (evs Φ es ρ M).bind fun ds M1 => callR Φ f k ds M1 := Eq.trans rfl rfl
@[simp] theorem ev_callK (Φ : Orac) (f : Str) (k : Nat) (es ws : Cs) (p : List Nat) (ρ : Env') (M : Store) : ev Φ (.callK f k es ws p) ρ M = (evs Φ es ρ M).bind fun ds M1 => (evs Φ ws ρ M1).bind fun zs M2 => if (p.filterMap fun i => (ds ++ zs)[i]?).length = p.length then callR Φ f k (p.filterMap fun i => (ds ++ zs)[i]?) M2 else .no := Eq.trans rfl rfl
@[simp] theorem ev_blt (Φ : Orac) (b : BI) (r : Bool) (es : Cs) (ρ : Env') (M : Store) : ev Φ (.blt b r es) ρ M = (evs Φ es ρ M).bind fun ds M1 => blt b r ds M1 := Eq.trans rfl rfl
def revF (x : D) (M1 : Store) : Res D := match x.look M1 with
    | .lst xs => .ok (.lst xs.reverse) M1
    | .tup xs => .ok (.tup xs.reverse) M1
    | _ => .no
@[simp] theorem revF_lst (xs : List D) (M : Store) : revF (.lst xs) M = .ok (.lst xs.reverse) M := Eq.trans rfl rfl
@[simp] theorem revF_tup (xs : List D) (M : Store) : revF (.tup xs) M = .ok (.tup xs.reverse) M := Eq.trans rfl rfl
@[simp] theorem ev_rev (Φ : Orac) (a : C) (ρ : Env') (M : Store) : ev Φ (.rev a) ρ M = (ev Φ a ρ M).bind revF := Eq.trans rfl rfl
def lrevF (r : Bool) (x : D) (M1 : Store) : Res D := match x.look M1 with
    | .lst xs => mkL r xs.reverse M1
    | _ => .no
@[simp] theorem lrevF_lst (r : Bool) (xs : List D) (M : Store) : lrevF r (.lst xs) M = mkL r xs.reverse M := Eq.trans rfl rfl
@[simp] theorem ev_lrev (Φ : Orac) (r : Bool) (a : C) (ρ : Env') (M : Store) : ev Φ (.lrev r a) ρ M = (ev Φ a ρ M).bind (lrevF r) := Eq.trans rfl rfl
def ssetF (r : Bool) (x : D) (M1 : Store) : Res D := match x.look M1 with
    | .lst xs => (match ssetD xs with
      | some ys => mkL r ys M1
      | none => .no)
    | _ => .no
@[simp] theorem ev_sset (Φ : Orac) (r : Bool) (a : C) (ρ : Env') (M : Store) : ev Φ (.sset r a) ρ M = (ev Φ a ρ M).bind (ssetF r) := Eq.trans rfl rfl
@[simp] theorem ev_mth (Φ : Orac) (m : MI) (o : C) (es : Cs) (ρ : Env') (M : Store) : ev Φ (.mth m o es) ρ M = (ev Φ o ρ M).bind fun x M1 => if isL x M1 then (evs Φ es ρ M1).bind fun ds M2 => mth m x ds M2 else .no := Eq.trans rfl rfl
@[simp] theorem ev_comp (Φ : Orac) (r : Bool) (elt : C) (tg : Tg) (it : It) (cond : C) (ρ : Env') (M : Store) : ev Φ (.comp r elt tg it cond) ρ M = (evI Φ it ρ M).bind fun xs M1 => (compL (ev Φ elt) (fun ρ M => (ev Φ cond ρ M).bind truF) tg ρ xs [] M1).bind fun ys M2 => mkL r ys M2 := Eq.trans rfl rfl
@[simp] theorem ev_isi (Φ : Orac) (a : C) (t : TN) (ρ : Env') (M : Store) : ev Φ (.isi a t) ρ M = (ev Φ a ρ M).bind fun x M1 => opt ((isiD x t).map .bl) M1 := Eq.trans rfl rfl
def negF (x : D) (M1 : Store) : Res D := match x with
    | .int i => .ok (.int (-i)) M1
    | _ => .no
@[simp] theorem negF_int (i : Int) (M : Store) : negF (.int i) M = .ok (.int (-i)) M := Eq.trans rfl rfl
@[simp] theorem ev_neg (Φ : Orac) (a : C) (ρ : Env') (M : Store) : ev Φ (.neg a) ρ M = (ev Φ a ρ M).bind negF := Eq.trans rfl rfl
@[simp] theorem evs_nil (Φ : Orac) (ρ : Env') (M : Store) : evs Φ .nil ρ M = .ok [] M := Eq.trans rfl rfl
@[simp] theorem evs_cons (Φ : Orac) (c : C) (r : Cs) (ρ : Env') (M : Store) : evs Φ (.cons c r) ρ M = (ev Φ c ρ M).bind fun d M1 => (evs Φ r ρ M1).bind fun ds M2 => .ok (d :: ds) M2 := Eq.trans rfl rfl
@[simp high] theorem ev_tup0 (Φ : Orac) (ρ : Env') (M : Store) : ev Φ (.tup .nil) ρ M = .ok (.tup []) M := by
  rw [ev_tup, evs_nil, Res.bind_ok]
  exact if_pos (Nat.zero_le _)
@[simp high] theorem ev_lst0 (Φ : Orac) (r : Bool) (ρ : Env') (M : Store) : ev Φ (.lst r .nil) ρ M = mkL r [] M := by
  rw [ev_lst, evs_nil, Res.bind_ok]
  exact if_pos (Nat.zero_le _)
def itmF (d : D) (M1 : Store) : Res (List D) := opt (items d) M1
@[simp] theorem itmF_lst (xs : List D) (M : Store) : itmF (.lst xs) M = .ok xs M := Eq.trans rfl rfl
@[simp] theorem itmF_tup (xs : List D) (M : Store) : itmF (.tup xs) M = .ok xs M := Eq.trans rfl rfl
@[simp] theorem evI_seq (Φ : Orac) (c : C) (ρ : Env') (M : Store) : evI Φ (.seq c) ρ M = (ev Φ c ρ M).bind itmF := Eq.trans rfl rfl
def rngF (l h : D) (M2 : Store) : Res (List D) := match l, h with
    | .int i, .int j => if -(2 ^ 62) ≤ i ∧ i < 2 ^ 62 ∧ -(2 ^ 62) ≤ j ∧ j < 2 ^ 62 then .ok (rngL i j) M2 else .no
    | _, _ => .no
@[simp] theorem rngF_int (i j : Int) (M : Store) (h : (-(2 ^ 62) ≤ i ∧ i < 2 ^ 62) ∧ -(2 ^ 62) ≤ j ∧ j < 2 ^ 62) : rngF (.int i) (.int j) M = .ok (rngL i j) M := if_pos ⟨h.1.1, h.1.2, h.2.1, h.2.2⟩
@[simp] theorem evI_rng (Φ : Orac) (lo hi : C) (ρ : Env') (M : Store) : evI Φ (.rng lo hi) ρ M = (ev Φ lo ρ M).bind fun l M1 => (ev Φ hi ρ M1).bind fun h M2 => rngF l h M2 := Eq.trans rfl rfl
def zipF (x y : D) (M2 : Store) : Res (List D) := match x, y with
    | .tup xs, .tup ys => .ok (List.zipWith (fun u v => .tup [u, v]) xs ys) M2
    | .lst xs, .lst ys => .ok (List.zipWith (fun u v => .tup [u, v]) xs ys) M2
    | _, _ => .no
@[simp] theorem zipF_tup (xs ys : List D) (M : Store) : zipF (.tup xs) (.tup ys) M = .ok (List.zipWith (fun u v => .tup [u, v]) xs ys) M := Eq.trans rfl rfl
@[simp] theorem zipF_lst (xs ys : List D) (M : Store) : zipF (.lst xs) (.lst ys) M = .ok (List.zipWith (fun u v => .tup [u, v]) xs ys) M := Eq.trans rfl rfl
@[simp] theorem evI_zip (Φ : Orac) (a b : C) (ρ : Env') (M : Store) : evI Φ (.zip a b) ρ M = (ev Φ a ρ M).bind fun x M1 => (ev Φ b ρ M1).bind fun y M2 => zipF x y M2 := Eq.trans rfl rfl
def rngdF (l h : D) (M2 : Store) : Res (List D) := match l, h with
    | .int i, .int j => if -(2 ^ 62) ≤ i ∧ i < 2 ^ 62 ∧ -(2 ^ 62) ≤ j ∧ j < 2 ^ 62 then .ok (rngDn i j) M2 else .no
    | _, _ => .no
theorem rngdF_int (i j : Int) (M : Store) (h : (-(2 ^ 62) ≤ i ∧ i < 2 ^ 62) ∧ -(2 ^ 62) ≤ j ∧ j < 2 ^ 62) : rngdF (.int i) (.int j) M = .ok (rngDn i j) M := if_pos ⟨h.1.1, h.1.2, h.2.1, h.2.2⟩
@[simp] theorem evI_rngd (Φ : Orac) (lo hi : C) (ρ : Env') (M : Store) : evI Φ (.rngd lo hi) ρ M = (ev Φ lo ρ M).bind fun l M1 => (ev Φ hi ρ M1).bind fun h M2 => rngdF l h M2 := Eq.trans rfl rfl
@[simp] theorem newL_lst (xs : List D) (M : Store) : newL (some (.lst xs)) M = .ok (.ref M.length) (M ++ [.lst xs]) := Eq.trans rfl rfl
@[simp] theorem ev_binL (Φ : Orac) (o : BO) (a b : C) (ρ : Env') (M : Store) : ev Φ (.binL o a b) ρ M = (ev Φ a ρ M).bind fun x M1 => (ev Φ b ρ M1).bind fun y M2 => newL (bop o x y) M2 := Eq.trans rfl rfl
@[simp] theorem ev_slcL (Φ : Orac) (a lo hi : C) (ρ : Env') (M : Store) : ev Φ (.slcL a lo hi) ρ M = (ev Φ a ρ M).bind fun x M1 => (ev Φ lo ρ M1).bind fun l M2 => (ev Φ hi ρ M2).bind fun h M3 =>
      newL ((partC lo l).bind fun l => (partC hi h).bind fun h => slD (x.look M3) l h) M3 := Eq.trans rfl rfl
@[simp] theorem ev_rpr (Φ : Orac) (a : C) (ρ : Env') (M : Store) : ev Φ (.rpr a) ρ M = (ev Φ a ρ M).bind fun x M1 => opt ((rprD (x.look M1)).map .str) M1 := Eq.trans rfl rfl
@[simp] theorem ev_emp (Φ : Orac) (ρ : Env') (M : Store) : ev Φ .emp ρ M = .ok .emp M := Eq.trans rfl rfl
@[simp] theorem look_emp (M : Store) : D.emp.look M = .emp := Eq.trans rfl rfl
def rvsF (x : D) (M1 : Store) : Res (List D) := opt ((items x).map List.reverse) M1
@[simp] theorem rvsF_lst (xs : List D) (M : Store) : rvsF (.lst xs) M = .ok xs.reverse M := Eq.trans rfl rfl
@[simp] theorem rvsF_tup (xs : List D) (M : Store) : rvsF (.tup xs) M = .ok xs.reverse M := Eq.trans rfl rfl
@[simp] theorem evI_rvs (Φ : Orac) (a : C) (ρ : Env') (M : Store) : evI Φ (.rvs a) ρ M = (ev Φ a ρ M).bind rvsF := Eq.trans rfl rfl
def enmF (x : D) (M1 : Store) : Res (List D) := match x with
    | .lst xs => .ok (enmL 0 xs) M1
    | .tup xs => .ok (enmL 0 xs) M1
    | _ => .no
@[simp] theorem enmF_tup (xs : List D) (M : Store) : enmF (.tup xs) M = .ok (enmL 0 xs) M := Eq.trans rfl rfl
@[simp] theorem enmF_lst (xs : List D) (M : Store) : enmF (.lst xs) M = .ok (enmL 0 xs) M := Eq.trans rfl rfl
@[simp] theorem evI_enm (Φ : Orac) (a : C) (ρ : Env') (M : Store) : evI Φ (.enm a) ρ M = (ev Φ a ρ M).bind enmF := Eq.trans rfl rfl

/-! ### operators -/
theorem lg_lt {i : Int} {k : Nat} (h : -(2 ^ k) < i ∧ i < 2 ^ k) : i.natAbs.log2 ≤ k := by
  have : i.natAbs < 2 ^ k := by
    have : (2 : Int) ^ k = ((2 ^ k : Nat) : Int) := by simp
    omega
  by_cases h0 : i.natAbs = 0
  · rw [h0]; exact Nat.zero_le _
  · exact Nat.le_of_lt ((Nat.log2_lt h0).mpr this)
@[simp] theorem bop_add (i j : Int) : bop .add (.int i) (.int j) = some (.int (i + j)) := Eq.trans rfl rfl
@[simp] theorem bop_sub (i j : Int) : bop .sub (.int i) (.int j) = some (.int (i - j)) := Eq.trans rfl rfl
theorem bop_mul {i j : Int} (h : i.natAbs.log2 + j.natAbs.log2 < 1000000) : bop .mul (.int i) (.int j) = some (.int (i * j)) := if_pos h
theorem bop_fdv {i j : Int} (h : 0 < j) (h2 : j.natAbs.log2 < 9000) : bop .fdv (.int i) (.int j) = some (.int (i / j)) := if_pos ⟨h, h2⟩
theorem bop_mod {i j : Int} (h : 0 < j) : bop .mod (.int i) (.int j) = some (.int (i % j)) := if_pos h
@[simp] theorem cop_lt (i j : Int) : cop .lt (.int i) (.int j) = some (decide (i < j)) := Eq.trans rfl rfl
@[simp] theorem cop_le (i j : Int) : cop .le (.int i) (.int j) = some (decide (i ≤ j)) := Eq.trans rfl rfl
@[simp] theorem cop_gt (i j : Int) : cop .gt (.int i) (.int j) = some (decide (j < i)) := Eq.trans rfl rfl
@[simp] theorem cop_ge (i j : Int) : cop .ge (.int i) (.int j) = some (decide (j ≤ i)) := Eq.trans rfl rfl
@[simp] theorem cop_eq (i j : Int) : cop .eq (.int i) (.int j) = some (decide (i = j)) := Eq.trans rfl rfl
@[simp] theorem cop_ne (i j : Int) : cop .ne (.int i) (.int j) = some (!decide (i = j)) := Eq.trans rfl rfl
@[simp] theorem look_int (i : Int) (M : Store) : (D.int i).look M = .int i := Eq.trans rfl rfl
@[simp] theorem look_bl (i : Bool) (M : Store) : (D.bl i).look M = .bl i := Eq.trans rfl rfl
@[simp] theorem look_non (M : Store) : D.non.look M = .non := Eq.trans rfl rfl
@[simp] theorem look_str (i : Str) (M : Store) : (D.str i).look M = .str i := Eq.trans rfl rfl
@[simp] theorem look_tup (i : List D) (M : Store) : (D.tup i).look M = .tup i := Eq.trans rfl rfl
@[simp] theorem look_lst (i : List D) (M : Store) : (D.lst i).look M = .lst i := Eq.trans rfl rfl
@[simp] theorem look_scr (i : List Int) (M : Store) : (D.scr i).look M = .scr i := Eq.trans rfl rfl
def lookO (i : Nat) (o : Option MO) : D := match o with
  | some (.lst xs) => .lst xs
  | _ => .ref i
@[simp] theorem lookO_lst (i : Nat) (xs : List D) : lookO i (some (.lst xs)) = .lst xs := Eq.trans rfl rfl
@[simp] theorem look_refO (i : Nat) (M : Store) : (D.ref i).look M = lookO i M[i]? := Eq.trans rfl rfl
@[simp] theorem ix_tup (xs : List D) (i : Int) : ixD (.tup xs) (.int i) = L2.atI xs i := Eq.trans rfl rfl
@[simp] theorem ix_lst (xs : List D) (i : Int) : ixD (.lst xs) (.int i) = L2.atI xs i := Eq.trans rfl rfl
@[simp] theorem blt_abs (r : Bool) (i : Int) (M : Store) : blt .abs r [.int i] M = .ok (.int (if i < 0 then -i else i)) M := Eq.trans rfl rfl
@[simp] theorem blt_max2 (r : Bool) (i j : Int) (M : Store) : blt .max2 r [.int i, .int j] M = .ok (.int (if j > i then j else i)) M := Eq.trans rfl rfl
@[simp] theorem blt_min2 (r : Bool) (i j : Int) (M : Store) : blt .min2 r [.int i, .int j] M = .ok (.int (if j < i then j else i)) M := Eq.trans rfl rfl
@[simp] theorem blt_int (r : Bool) (i : Int) (M : Store) : blt .int r [.int i] M = .ok (.int i) M := Eq.trans rfl rfl
def lenF (d : D) (M : Store) : Res D := match d with
    | .tup xs => .ok (.int xs.length) M
    | .lst xs => .ok (.int xs.length) M
    | .str s => if s.length ≤ sizeLine then .ok (.int s.length) M else .no
    | _ => .no
@[simp] theorem lenF_tup (xs : List D) (M : Store) : lenF (.tup xs) M = .ok (.int xs.length) M := Eq.trans rfl rfl
@[simp] theorem lenF_lst (xs : List D) (M : Store) : lenF (.lst xs) M = .ok (.int xs.length) M := Eq.trans rfl rfl
@[simp] theorem blt_len (r : Bool) (x : D) (M : Store) : blt .len r [x] M = lenF (x.look M) M := Eq.trans rfl rfl
def tupF (d : D) (M : Store) : Res D := match d with
    | .lst xs => .ok (.tup xs) M
    | .tup xs => .ok (.tup xs) M
    | _ => .no
@[simp] theorem tupF_lst (xs : List D) (M : Store) : tupF (.lst xs) M = .ok (.tup xs) M := Eq.trans rfl rfl
@[simp] theorem tupF_tup (xs : List D) (M : Store) : tupF (.tup xs) M = .ok (.tup xs) M := Eq.trans rfl rfl
@[simp] theorem blt_tuple (r : Bool) (x : D) (M : Store) : blt .tuple r [x] M = tupF (x.look M) M := Eq.trans rfl rfl
def listF (r : Bool) (d : D) (M : Store) : Res D := match d with
    | .lst xs => mkL r xs M
    | .tup xs => mkL r xs M
    | _ => .no
@[simp] theorem listF_lst (r : Bool) (xs : List D) (M : Store) : listF r (.lst xs) M = mkL r xs M := Eq.trans rfl rfl
@[simp] theorem listF_tup (r : Bool) (xs : List D) (M : Store) : listF r (.tup xs) M = mkL r xs M := Eq.trans rfl rfl
@[simp] theorem blt_list (r : Bool) (x : D) (M : Store) : blt .list r [x] M = listF r (x.look M) M := Eq.trans rfl rfl
def sumF (d : D) (M : Store) : Res D := opt ((match d with
    | .lst xs => intsD xs
    | .tup xs => intsD xs
    | _ => none).map fun (ns : List Int) => D.int ns.sum) M
@[simp] theorem blt_sum (r : Bool) (x : D) (M : Store) : blt .sum r [x] M = sumF (x.look M) M := Eq.trans rfl rfl
@[simp] theorem intsD_map (ns : List Int) : intsD (ns.map .int) = some ns := by
  induction ns with
  | nil => rfl
  | cons n ns ih => show (intsD (ns.map .int)).map (n :: ·) = _; rw [ih] <;> rfl
@[simp] theorem sumF_tup (ns : List Int) (M : Store) : sumF (.tup (ns.map .int)) M = .ok (.int ns.sum) M := by simp [sumF]
@[simp] theorem sumF_lst (ns : List Int) (M : Store) : sumF (.lst (ns.map .int)) M = .ok (.int ns.sum) M := by simp [sumF]
def minF (d : D) (M : Store) : Res D := opt (match d with
    | .lst xs => (match intsD xs with
      | some (n :: ns) => some (.int (ns.foldl min n))
      | _ => none)
    | .tup xs => (match intsD xs with
      | some (n :: ns) => some (.int (ns.foldl min n))
      | _ => none)
    | _ => none) M
@[simp] theorem blt_min1 (r : Bool) (x : D) (M : Store) : blt .min1 r [x] M = minF (x.look M) M := Eq.trans rfl rfl
theorem minF_tup (n : Int) (ns : List Int) (M : Store) : minF (.tup ((n :: ns).map .int)) M = .ok (.int (ns.foldl min n)) M := by
  unfold minF
  simp only [intsD_map]
  rfl
@[simp] theorem mkL_t (xs : List D) (M : Store) : mkL true xs M = .ok (.ref M.length) (M ++ [.lst xs]) := Eq.trans rfl rfl
@[simp] theorem mkL_f (xs : List D) (M : Store) : mkL false xs M = .ok (.lst xs) M := Eq.trans rfl rfl
@[simp] theorem size_ok (n : Nat) (h : n ≤ 1000000) : n ≤ sizeLine := by rw [PySem.sizeLine_eq]; omega

/-! ### calls -/
theorem run_some {P : Prg} {n : Nat} {f : Str} {ds : List D} {M : Store} {c : CZ.Code} (h : P.lookup f = some c) (hl : ds.length = c.np) :
    run P (n + 1) f ds M = (ex (run P n) c.body (ds.map some ++ List.replicate (c.ns - ds.length) none) M).bind retF := by
  show (match P.lookup f with
    | none => Res.no
    | some c => if ds.length = c.np then _ else .no) = _
  rw [h]
  show (if ds.length = c.np then _ else Res.no) = _
  rw [if_pos hl]
  rfl
/-- f of pure arguments answers d -/
def Ans (Φ : Orac) (f : Str) (ds : List D) (d : D) : Prop := ∃ M', Φ f ds [] = .ok d M'
theorem callR0 {Φ : Orac} {f : Str} {ds : List D} {d : D} {M : Store} (h : Ans Φ f ds d) (h1 : D.cls 0 ds = true) (h2 : d.cl 0 = true) : callR Φ f 0 ds M = .ok d M := by
  obtain ⟨M', h⟩ := h
  unfold callR
  have e : (D.cls 0 ds && (M.take 0).all (moCl 0) && decide (0 ≤ M.length)) = true := by simp [h1]
  rw [if_pos e, show M.take 0 = [] from rfl, h]
  show (if (D.cl 0 d && (List.take 0 M').all (moCl 0)) = true then Res.ok d (List.take 0 M' ++ List.drop 0 M) else if List.length M = 0 then Res.ok d M' else Res.no) = _
  rw [if_pos (by simp [h2])] <;> rfl
theorem WP_call0 {Φ : Orac} {f : Str} {ds : List D} {d : D} {M : Store} {Q : D → Store → Prop} (h : Ans Φ f ds d) (h1 : D.cls 0 ds = true) (h2 : d.cl 0 = true) (q : Q d M) : WP (callR Φ f 0 ds M) Q := WP_of_eq (callR0 h h1 h2) q
theorem ans_wp {Φ : Orac} {f : Str} {ds : List D} {d : D} (h : WP (Φ f ds []) fun d' _ => d' = d) : Ans Φ f ds d := by
  obtain ⟨a, M, e, rfl⟩ := h
  exact ⟨M, e⟩
theorem ans_run {P : Prg} {n : Nat} {f : Str} {ds : List D} {d : D} {c : CZ.Code} (h : P.lookup f = some c) (hl : ds.length = c.np) (w : WP (ex (run P n) c.body (ds.map some ++ List.replicate (c.ns - ds.length) none) []) fun fl _ => fl = .rt d) : Ans (run P (n + 1)) f ds d := by
  refine ans_wp ?_
  rw [run_some h hl]
  refine WP_bind (w.mono fun fl M e => ?_)
  subst e
  simp
/-! ### loops -/
/-- a for: an invariant of the turns done -/
theorem WP_for {fb : Env' → Store → Res Fl} {tg : Tg} {Q : Fl → Store → Prop} (I : List D → Env' → Store → Prop) : ∀ {xs : List D} {ρ : Env'} {M : Store}, I xs ρ M →
    (∀ x r ρ M, I (x :: r) ρ M → ∃ ρ', setT tg x ρ = some ρ' ∧ WP (fb ρ' M) fun f M1 => match f with
      | .nx ρ1 => I r ρ1 M1
      | .ct ρ1 => I r ρ1 M1
      | .bk ρ1 => Q (.nx ρ1) M1
      | .rt d => Q (.rt d) M1) → (∀ ρ M, I [] ρ M → Q (.nx ρ) M) → WP (forL fb tg xs ρ M) Q
  | [], ρ, M, h, _, e => WP_ok.mpr (e ρ M h)
  | x :: r, ρ, M, h, hb, e => by
    obtain ⟨ρ', h1, f, M1, h2, h3⟩ := hb x r ρ M h
    unfold forL
    rw [h1]
    show WP ((fb ρ' M).bind _) Q
    rw [h2]
    cases f with
    | nx ρ1 => exact WP_for I h3 hb e
    | ct ρ1 => exact WP_for I h3 hb e
    | bk ρ1 => exact WP_ok.mpr h3
    | rt d => exact WP_ok.mpr h3
theorem whileL_of {fc : Env' → Store → Res Bool} {fb : Env' → Store → Res Fl} {ρ : Env'} {M : Store} {Q : Fl → Store → Prop} {n : Nat} (h : WP (whileN fc fb n ρ M) Q) : WP (whileL fc fb ρ M) Q := by
  obtain ⟨a, M1, e, q⟩ := h
  have mono : ∀ (n : Nat) (ρ : Env') (M : Store) r, whileN fc fb n ρ M = r → r ≠ .no → ∀ m, n ≤ m → whileN fc fb m ρ M = r := by
    intro n
    induction n with
    | zero => intro ρ M r e hr; exact absurd e.symm hr
    | succ n ih =>
      intro ρ M r e hr m hm
      obtain ⟨m, rfl⟩ : ∃ k, m = k + 1 := ⟨m - 1, by omega⟩
      have hm' : n ≤ m := by omega
      rw [whileN] at e ⊢
      cases q1 : fc ρ M with
      | no => rw [q1] at e; exact absurd e.symm hr
      | er x M2 => rw [q1] at e; exact e
      | ok t M2 =>
        rw [q1] at e
        simp only [Res.bind_ok] at e ⊢
        cases t with
        | false => exact e
        | true =>
          simp only [if_true] at e ⊢
          cases q2 : fb ρ M2 with
          | no => rw [q2] at e; exact absurd e.symm hr
          | er x M3 => rw [q2] at e; exact e
          | ok f M3 =>
            rw [q2] at e
            simp only [Res.bind_ok] at e ⊢
            cases f with
            | nx ρ1 => exact ih ρ1 M3 r e hr m hm'
            | ct ρ1 => exact ih ρ1 M3 r e hr m hm'
            | bk ρ1 => exact e
            | rt d => exact e
  have hx : ∃ n, whileN fc fb n ρ M ≠ .no := ⟨n, by rw [e]; intro z; cases z⟩
  unfold whileL
  rw [dif_pos hx]
  refine ⟨a, M1, ?_, q⟩
  have hc := Classical.choose_spec hx
  have a1 := mono _ ρ M _ rfl hc (max n (Classical.choose hx)) (Nat.le_max_right ..)
  have a2 := mono n ρ M _ e (fun z => by cases z) (max n (Classical.choose hx)) (Nat.le_max_left ..)
  exact a1.symm.trans a2
/-- a while: an invariant with a measure -/
theorem WP_while {fc : Env' → Store → Res Bool} {fb : Env' → Store → Res Fl} {Q : Fl → Store → Prop} (I : Nat → Env' → Store → Prop) (hs : ∀ n ρ M, I n ρ M → WP (fc ρ M) fun t M1 => if t then WP (fb ρ M1) fun f M2 => (match f with
      | .nx ρ1 => ∃ m, m < n ∧ I m ρ1 M2
      | .ct ρ1 => ∃ m, m < n ∧ I m ρ1 M2
      | .bk ρ1 => Q (.nx ρ1) M2
      | .rt d => Q (.rt d) M2) else Q (.nx ρ) M1) {n : Nat} {ρ : Env'} {M : Store} (h : I n ρ M) : WP (whileL fc fb ρ M) Q := by
  have key : ∀ n ρ M, I n ρ M → ∃ k, WP (whileN fc fb k ρ M) Q := by
    intro n
    induction n using Nat.strongRecOn with
    | _ n ih =>
      intro ρ M h
      obtain ⟨t, M1, e1, h1⟩ := hs n ρ M h
      cases t with
      | false =>
        refine ⟨1, ?_⟩
        rw [whileN, e1]
        exact WP_ok.mpr h1
      | true =>
        rw [if_pos rfl] at h1
        obtain ⟨f, M2, e2, h2⟩ := h1
        cases f with
        | nx ρ1 =>
          obtain ⟨m, hm, h3⟩ := h2
          obtain ⟨k, hk⟩ := ih m hm ρ1 M2 h3
          refine ⟨k + 1, ?_⟩
          rw [whileN, e1]
          simp only [Res.bind_ok, if_true, e2]
          exact hk
        | ct ρ1 =>
          obtain ⟨m, hm, h3⟩ := h2
          obtain ⟨k, hk⟩ := ih m hm ρ1 M2 h3
          refine ⟨k + 1, ?_⟩
          rw [whileN, e1]
          simp only [Res.bind_ok, if_true, e2]
          exact hk
        | bk ρ1 =>
          refine ⟨1, ?_⟩
          rw [whileN, e1]
          simp only [Res.bind_ok, if_true, e2]
          exact WP_ok.mpr h2
        | rt d =>
          refine ⟨1, ?_⟩
          rw [whileN, e1]
          simp only [Res.bind_ok, if_true, e2]
          exact WP_ok.mpr h2
  obtain ⟨k, hk⟩ := key n ρ M h
  exact whileL_of hk
/-- a comprehension without effects: g the items' values, p the condition -/
theorem compL_pure {fe : Env' → Store → Res D} {fc : Env' → Store → Res Bool} {tg : Tg} {ρ : Env'} {M : Store} (g : D → D) (p : D → Bool) : ∀ (xs acc : List D), (∀ x ∈ xs, ∃ ρ', setT tg x ρ = some ρ' ∧ fc ρ' M = .ok (p x) M ∧ (p x = true → fe ρ' M = .ok (g x) M)) → acc.length + xs.length ≤ 1000000 →
    compL fe fc tg ρ xs acc M = .ok (acc ++ (xs.filter p).map g) M
  | [], acc, _, _ => by simp [compL]
  | x :: r, acc, h, hz => by
    obtain ⟨ρ', h1, h2, h3⟩ := h x (List.mem_cons_self ..)
    have hr : ∀ y ∈ r, _ := fun y hy => h y (List.mem_cons_of_mem _ hy)
    rw [compL, h1]
    show (fc ρ' M).bind _ = _
    rw [h2, Res.bind_ok]
    simp only [List.length_cons] at hz
    cases hp : p x with
    | true =>
      rw [if_pos rfl, h3 hp, Res.bind_ok, if_pos (by rw [PySem.sizeLine_eq]; omega), compL_pure g p r (acc ++ [g x]) hr (by simp; omega)]
      rw [List.filter_cons, if_pos hp]
      simp
    | false =>
      rw [if_neg Bool.false_ne_true, compL_pure g p r acc hr (by omega), List.filter_cons, if_neg (by rw [hp]; exact Bool.false_ne_true)]
theorem compL_map {fe : Env' → Store → Res D} {fc : Env' → Store → Res Bool} {tg : Tg} {ρ : Env'} {M : Store} (g : D → D) (xs : List D) (h : ∀ x ∈ xs, ∃ ρ', setT tg x ρ = some ρ' ∧ fc ρ' M = .ok true M ∧ fe ρ' M = .ok (g x) M) (hl : xs.length ≤ 1000000) :
    compL fe fc tg ρ xs [] M = .ok (xs.map g) M := by
  rw [compL_pure g (fun _ => true) xs [] (fun x hx => by
    obtain ⟨ρ', h1, h2, h3⟩ := h x hx
    exact ⟨ρ', h1, h2, fun _ => h3⟩) (by simpa using hl)]
  rw [List.nil_append, List.filter_eq_self.mpr (fun _ _ => rfl)]
end CZ

set_option Elab.async false
set_option linter.all false
set_option maxRecDepth 100000
set_option maxHeartbeats 4000000
/-! CZ15: the laws' own four defs that all laws share: the bag. -/
namespace CZ
open PySem

theorem bop_mulS {i j : Int} (hi : -4611686018427387904 < i ∧ i < 4611686018427387904) (hj : -4611686018427387904 < j ∧ j < 4611686018427387904) : bop .mul (.int i) (.int j) = some (.int (i * j)) :=
  bop_mul (by have := lg_lt (i := i) (k := 62) (by omega); have := lg_lt (i := j) (k := 62) (by omega); omega)
theorem bop_fdvS {i j : Int} (h : 0 < j) (h2 : j < 4611686018427387904) : bop .fdv (.int i) (.int j) = some (.int (i / j)) :=
  bop_fdv h (by have := lg_lt (i := j) (k := 62) (by omega); omega)
@[simp] theorem bop_powc (i : Nat) (j : Nat) (h : i < 1000) (h2 : j ≤ 1000) : bop .pow (.int i) (.int j) = some (.int ((i : Int) ^ j)) := by
  show (if (0 : Int) ≤ (j : Int) ∧ (j : Int) ≤ 1000000 ∧ (i : Int).natAbs < 2 ^ 64 then some (D.int ((i : Int) ^ (j : Int).toNat)) else none) = _
  rw [if_pos ⟨by omega, by omega, by omega⟩] <;> rfl
@[simp] theorem bop_pow9 : bop .pow (.int 10) (.int 9) = some (.int 1000000000) := bop_powc 10 9 (by decide) (by decide)
@[simp] theorem bop_pow6 : bop .pow (.int 10) (.int 6) = some (.int 1000000) := bop_powc 10 6 (by decide) (by decide)
@[simp] theorem bop_pow10 : bop .pow (.int 10) (.int 10) = some (.int 10000000000) := bop_powc 10 10 (by decide) (by decide)
@[simp] theorem bop_shl2000 : bop .shl (.int 1) (.int 2000) = some (.int (1 * 2 ^ (2000 : Int).toNat)) := by
  show (if (0 : Int) ≤ 2000 ∧ (2000 : Int) ≤ 1000000 ∧ (1 : Int).natAbs < 2 ^ 64 then some (D.int ((1 : Int) * 2 ^ (2000 : Int).toNat)) else none) = _
  rw [if_pos ⟨by decide, by decide, by decide⟩] <;> rfl
structure Bag where
  cells : List Int
  c : Int
  m : Int
def Bag.ok (B : Bag) : Prop := 0 ≤ B.m ∧ B.m < 2147483647
def Bag.s0 (B : Bag) : MO := .lst (B.cells.map .int)
def Bag.s1 (B : Bag) : MO := .lst [.ref 0, .int B.c, .int B.m]
abbrev Bag.st (B : Bag) : Store := [B.s0, B.s1]
theorem cls_ints (k : Nat) : ∀ ns : List Int, D.cls k (ns.map .int) = true
  | [] => rfl
  | n :: ns => by
    show (true && D.cls k (ns.map .int)) = true
    rw [cls_ints k ns] <;> rfl
theorem moCl_s0 (B : Bag) (k : Nat) : moCl k B.s0 = true := cls_ints k B.cells
theorem moCl_s1 (B : Bag) : moCl 2 B.s1 = true := rfl
theorem shs_ints (k : Nat) : ∀ ns : List Int, D.shs (k + 1) (ns.map .int) = true
  | [] => rfl
  | n :: ns => by
    show (D.sh k (.int n) && D.shs (k + 1) (ns.map .int)) = true
    rw [shs_ints k ns]
    cases k <;> rfl
theorem eq_nil_ints (ns : List Int) : eqD (.lst (ns.map .int)) (.lst []) = some ns.isEmpty := by
  have h : eqD (.lst (ns.map .int)) (.lst []) = if (D.lst (ns.map .int)).sh 60 && (D.lst []).sh 60 then some (PyData.eqv (D.lst (ns.map .int)).py (D.lst []).py) else none := rfl
  have h2 : (D.lst (ns.map .int)).sh 60 = true := shs_ints 59 ns
  have h3 : ((D.lst (ns.map .int)).sh 60 && (D.lst []).sh 60) = true := by rw [h2] <;> rfl
  rw [h, if_pos h3]
  cases ns with
  | nil => simp [D.py, D.pys, PyData.eqv, PyData.eqvAll]
  | cons n ns => simp [D.py, D.pys, PyData.eqv, PyData.eqvAll]
@[simp] theorem cop_eqnil (ns : List Int) : cop .eq (.lst (ns.map .int)) (.lst []) = some ns.isEmpty := eq_nil_ints ns
def b_law_draw_1 : S := (.seq (.ife (.or (.cmp .gt (.idx (.var 0) (.kI 1)) (.kI 0)) (.cmp .eq (.idx (.var 0) (.kI 0)) (.lst false .nil))) (.seq (.brk) .skip) .skip) (.seq (.set 3 (.mth .pop (.idx (.var 0) (.kI 0)) .nil)) (.seq (.sti (.var 0) (.kI 1) (.ifx (.cmp .gt (.var 3) (.bin .pow (.kI 10) (.kI 9))) (.var 3) (.kI 0))) .skip)))
def c_law_draw : CZ.Code := ⟨2, 5, (.seq (.loop (.nm 2) (.rng (.kI 0) (.kI 64)) b_law_draw_1) (.seq (.ife (.cmp .gt (.idx (.var 0) (.kI 1)) (.kI 0)) (.seq (.set 4 (.bin .mod (.blt .int false (.cons (.idx (.var 0) (.kI 1)) .nil)) (.var 1))) (.seq (.sti (.var 0) (.kI 1) (.ifx (.cmp .gt (.var 1) (.kI 1)) (.bin .fdv (.idx (.var 0) (.kI 1)) (.var 1)) (.bin .fdv (.idx (.var 0) (.kI 1)) (.kI 2)))) (.seq (.ret (.var 4)) .skip))) .skip) (.seq (.sti (.var 0) (.kI 2) (.bin .mod (.bin .add (.bin .mul (.blt .int false (.cons (.idx (.var 0) (.kI 2)) .nil)) (.kI 48271)) (.kI 11)) (.kI 2147483647))) (.seq (.ret (.bin .mod (.bin .fdv (.bin .mod (.blt .int false (.cons (.bin .mul (.idx (.var 0) (.kI 2)) (.idx (.var 0) (.kI 2))) .nil)) (.kI 2147483629)) (.kI 7)) (.var 1))) .skip))))⟩
def c_law_pick : CZ.Code := ⟨2, 2, (.seq (.ret (.idx (.var 1) (.call "_law_draw" 2 (.cons (.var 0) (.cons (.blt .len false (.cons (.var 1) .nil)) .nil))))) .skip)⟩
def c_law_same : CZ.Code := ⟨2, 4, (.seq (.ife (.isi (.var 1) .tuple) (.seq (.ife (.or (.not (.isi (.var 0) .tuple)) (.cmp .ne (.blt .len false (.cons (.var 0) .nil)) (.blt .len false (.cons (.var 1) .nil)))) (.seq (.ret (.kB false)) .skip) .skip) (.seq (.ret (.blt .all false (.cons (.comp false (.call "_law_same" 0 (.cons (.var 2) (.cons (.var 3) .nil))) (.tp [2, 3]) (.zip (.var 0) (.var 1)) (.kB true)) .nil))) .skip)) .skip) (.seq (.ife (.isN (.var 1)) (.seq (.ret (.isN (.var 0))) .skip) .skip) (.seq (.ife (.isi (.var 1) .bool) (.seq (.ret (.and (.isi (.var 0) .bool) (.cmp .eq (.var 0) (.var 1)))) .skip) .skip) (.seq (.ife (.isi (.var 1) .str) (.seq (.ret (.and (.isi (.var 0) .str) (.cmp .eq (.var 0) (.var 1)))) .skip) .skip) (.seq (.ret (.and (.isi (.var 0) .int) (.and (.not (.isi (.var 0) .bool)) (.cmp .eq (.var 0) (.var 1))))) .skip)))))⟩
def b_law_own_bag_1 : S := (.seq (.set 2 (.bin .mod (.bin .add (.bin .add (.bin .mul (.var 2) (.kI 48271)) (.bin .mod (.var 3) (.kI 2147483629))) (.kI 7)) (.kI 2147483647))) .skip)
def c_law_own_bag (z : Int) : CZ.Code := ⟨1, 4, (.seq (.set 1 (.comp false (.bin .mod (.blt .abs false (.cons (.var 3) .nil)) (.bin .shl (.kI 1) (.kI 2000))) (.nm 3) (.seq (.slc (.var 0) .kN (.kI 63))) (.kB true))) (.seq (.set 2 (.bin .add (.kI z) (.blt .len false (.cons (.var 1) .nil)))) (.seq (.loop (.nm 3) (.seq (.var 1)) b_law_own_bag_1) (.seq (.ret (.lst true (.cons (.lrev true (.blt .list false (.cons (.var 1) .nil))) (.cons (.kI 0) (.cons (.var 2) .nil))))) .skip))))⟩

@[simp] theorem atI0 {α : Type} (x : α) (r : List α) : L2.atI (x :: r) 0 = some x := by
  unfold L2.atI L2.ixN
  simp
@[simp] theorem atI1 {α : Type} (x y : α) (r : List α) : L2.atI (x :: y :: r) 1 = some y := by
  unfold L2.atI L2.ixN
  rw [if_pos (by decide : (0 : Int) ≤ 1), if_pos (by simp only [List.length_cons]; omega)] <;> rfl
@[simp] theorem atI2 {α : Type} (x y z : α) (r : List α) : L2.atI (x :: y :: z :: r) 2 = some z := by
  unfold L2.atI L2.ixN
  rw [if_pos (by decide : (0 : Int) ≤ 2), if_pos (by simp only [List.length_cons]; omega)] <;> rfl
def stiF (o : Option MO) (a : Nat) (k : Int) (d : D) (M : Store) : Res Unit := match o with
    | some (.lst xs) => (match L2.ixN xs.length k with
      | some j => .ok () (M.set a (.lst (xs.set j d)))
      | none => .no)
    | _ => .no
@[simp] theorem sti_eq (a : Nat) (k : Int) (d : D) (M : Store) : sti (.ref a) (.int k) d M = stiF M[a]? a k d M := Eq.trans rfl rfl
def stiJ (j : Option Nat) (xs : List D) (a : Nat) (d : D) (M : Store) : Res Unit := match j with
      | some j => .ok () (M.set a (.lst (xs.set j d)))
      | none => .no
@[simp] theorem stiF_lst (xs : List D) (a : Nat) (k : Int) (d : D) (M : Store) : stiF (some (.lst xs)) a k d M = stiJ (L2.ixN xs.length k) xs a d M := Eq.trans rfl rfl
@[simp] theorem stiJ_some (j : Nat) (xs : List D) (a : Nat) (d : D) (M : Store) : stiJ (some j) xs a d M = .ok () (M.set a (.lst (xs.set j d))) := Eq.trans rfl rfl
@[simp] theorem ixN31 : L2.ixN 3 1 = some 1 := Eq.trans rfl rfl
@[simp] theorem ixN32 : L2.ixN 3 2 = some 2 := Eq.trans rfl rfl
@[simp] theorem lookO_s0 (i : Nat) (B : Bag) : lookO i (some B.s0) = .lst (B.cells.map .int) := Eq.trans rfl rfl
@[simp] theorem lookO_s1 (i : Nat) (B : Bag) : lookO i (some B.s1) = .lst [.ref 0, .int B.c, .int B.m] := Eq.trans rfl rfl
@[simp] theorem stiF_s1 (B : Bag) (a : Nat) (k : Int) (d : D) (M : Store) : stiF (some B.s1) a k d M = stiJ (L2.ixN 3 k) [.ref 0, .int B.c, .int B.m] a d M := Eq.trans rfl rfl
@[simp] theorem isL_s0 (B : Bag) (M : Store) : isL (.ref 0) (B.s0 :: M) = true := Eq.trans rfl rfl
def popF (i : Nat) (o : Option MO) (M : Store) : Res D := match o with
    | some (.lst xs) => (match xs[xs.length - 1]? with
      | some d => .ok d (M.set i (.lst xs.dropLast))
      | none => .no)
    | _ => .no
@[simp] theorem mth_pop (i : Nat) (M : Store) : mth .pop (.ref i) [] M = popF i M[i]? M := Eq.trans rfl rfl
theorem popF_s0 (B : Bag) (M : Store) (h : B.cells ≠ []) : ∃ x, popF 0 (some B.s0) M = .ok (.int x) (M.set 0 (Bag.s0 ⟨B.cells.dropLast, B.c, B.m⟩)) := by
  have hl : B.cells.length - 1 < B.cells.length := by
    have := List.length_pos_iff.mpr h
    omega
  refine ⟨B.cells[B.cells.length - 1], ?_⟩
  unfold popF Bag.s0
  simp only [List.length_map, List.getElem?_map, List.getElem?_eq_getElem hl, Option.map_some, List.map_dropLast]
theorem s1_set1 (B : Bag) (x : Int) : MO.lst ([D.ref 0, .int B.c, .int B.m].set 1 (.int x)) = Bag.s1 ⟨B.cells, x, B.m⟩ := rfl
@[simp] theorem cop_eqnil0 : cop .eq (.lst []) (.lst []) = some true := eq_nil_ints []
/-- the bag's shape in draw -/
def DrI (b : Int) (ρ : Env') (M : Store) : Prop := ∃ (B : Bag) (t c : Option D), B.ok ∧ M = B.st ∧ ρ = [some (.ref 1), some (.int b), t, c, none]
theorem mod_range {i j : Int} (h : 0 < j) : 0 ≤ i % j ∧ i % j < j := ⟨Int.emod_nonneg _ (by omega), Int.emod_lt_of_pos _ h⟩
theorem sq_small {m : Int} (h : 0 ≤ m ∧ m < 2147483647) : bop .mul (.int m) (.int m) = some (.int (m * m)) := bop_mulS (by omega) (by omega)
theorem wp_draw0 {P : Prg} (h : P.lookup ("_law_draw" : Str) = some c_law_draw) (n : Nat) {B : Bag} (hB : B.ok) {b : Int} (hb : 0 < b) (hb2 : b < 4611686018427387904) :
    WP (CZ.run P (n + 1) "_law_draw" [.ref 1, .int b] B.st) fun d M' => ∃ (B' : Bag) (v : Int), B'.ok ∧ M' = B'.st ∧ d = .int v ∧ 0 ≤ v ∧ v < b := by
  rw [run_some h rfl]
  refine WP_bind ?_
  simp only [c_law_draw, ex_seq, ex_loop, evI_rng, ev_kI, Res.bind_ok]
  refine WP_bind ?_
  rw [rngF_int 0 64 _ (by omega), Res.bind_ok]
  refine WP.mono (Q := fun f M => ∃ ρ, f = .nx ρ ∧ DrI b ρ M) (WP_for (fun _ ρ M => DrI b ρ M) ⟨B, none, none, hB, rfl, rfl⟩ (fun x r ρ M hI => ?_) (fun ρ M hI => ⟨ρ, rfl, hI⟩)) (fun f M hf => ?_)
  · obtain ⟨B, t, c, hB, rfl, rfl⟩ := hI
    refine ⟨[some (.ref 1), some (.int b), some x, c, none], rfl, ?_⟩
    by_cases h1 : 0 < B.c
    · simp [b_law_draw_1, h1]
      exact ⟨B, _, _, hB, rfl, rfl⟩
    · by_cases h2 : B.cells = []
      · simp [b_law_draw_1, h1, h2]
        exact ⟨B, _, _, hB, rfl, rfl⟩
      · obtain ⟨y, hy⟩ := popF_s0 B B.st h2
        simp [b_law_draw_1, h1, h2, hy]
        by_cases h3 : 1000000000 < y
        · simp [h3]
          exact ⟨⟨B.cells.dropLast, y, B.m⟩, _, _, hB, rfl, rfl⟩
        · simp [h3]
          exact ⟨⟨B.cells.dropLast, 0, B.m⟩, _, _, hB, rfl, rfl⟩
  · obtain ⟨ρ, rfl, B, t, c, hB, rfl, rfl⟩ := hf
    by_cases h1 : 0 < B.c
    · have r := mod_range (i := B.c) hb
      by_cases h2 : 1 < b
      · simp [h1, h2, bop_mod hb, bop_fdvS hb hb2]
        exact ⟨⟨B.cells, B.c / b, B.m⟩, hB, ⟨rfl, rfl⟩, r.1, r.2⟩
      · simp [h1, h2, bop_mod hb, bop_fdvS (j := 2) (by decide) (by decide)]
        exact ⟨⟨B.cells, B.c / 2, B.m⟩, hB, ⟨rfl, rfl⟩, r.1, r.2⟩
    · have r := mod_range (i := B.m * 48271 + 11) (j := 2147483647) (by decide)
      have r2 := mod_range (i := (B.m * 48271 + 11) % 2147483647 * ((B.m * 48271 + 11) % 2147483647) % 2147483629 / 7) hb
      have hb' := hB
      simp [h1, bop_mulS (i := B.m) (j := 48271) (by have := hb'.1; have := hb'.2; omega) (by decide), bop_mod (j := 2147483647) (by decide), bop_mod (j := 2147483629) (by decide), bop_fdvS (j := 7) (by decide) (by decide), bop_mod hb, sq_small r]
      exact ⟨⟨B.cells, B.c, _⟩, r, ⟨rfl, rfl⟩, r2.1, r2.2⟩
theorem WP_call2 {Φ : Orac} {f : Str} {ds : List D} {B : Bag} {R : Store} {Q : D → Store → Prop} (h1 : D.cls 2 ds = true) (h : WP (Φ f ds B.st) fun d M' => ∃ (B' : Bag) (X : Store), M' = B'.s0 :: B'.s1 :: X ∧ d.cl 2 = true ∧ Q d (B'.s0 :: B'.s1 :: R)) :
    WP (callR Φ f 2 ds (B.s0 :: B.s1 :: R)) Q := by
  obtain ⟨d, M', e, B', X, rfl, hd, q⟩ := h
  refine WP_of_eq ?_ q
  unfold callR
  have e1 : (D.cls 2 ds && (List.take 2 (B.s0 :: B.s1 :: R)).all (moCl 2) && decide (2 ≤ (B.s0 :: B.s1 :: R).length)) = true := by
    simp [h1, moCl_s0, moCl_s1]
  rw [if_pos e1]
  show callB 2 _ (Φ f ds B.st) = _
  rw [e]
  show (if _ then _ else _) = _
  have e2 : (D.cl 2 d && (List.take 2 (B'.s0 :: B'.s1 :: X)).all (moCl 2)) = true := by
    simp [hd, moCl_s0, moCl_s1]
  rw [if_pos e2] <;> rfl
theorem wp_draw {P : Prg} (h : P.lookup ("_law_draw" : Str) = some c_law_draw) {n : Nat} {B : Bag} {R : Store} {Q : D → Store → Prop} (hB : B.ok) {b : Int} (hb : 0 < b) (hb2 : b < 4611686018427387904) (q : ∀ (v : Int) (B' : Bag), B'.ok → 0 ≤ v → v < b → Q (.int v) (B'.s0 :: B'.s1 :: R)) :
    WP (callR (CZ.run P (n + 1)) "_law_draw" 2 [.ref 1, .int b] (B.s0 :: B.s1 :: R)) Q :=
  WP_call2 rfl ((wp_draw0 h n hB hb hb2).mono fun d M ⟨B', v, h1, h2, h3, h4, h5⟩ => ⟨B', [], h2, by rw [h3] <;> rfl, by rw [h3]; exact q v B' h1 h4 h5⟩)
theorem wp_pick {P : Prg} (h : P.lookup ("_law_draw" : Str) = some c_law_draw) (h' : P.lookup ("_law_pick" : Str) = some c_law_pick) {n : Nat} {B : Bag} {R : Store} {Q : D → Store → Prop} (hB : B.ok) {xs : List D} (hx : xs ≠ []) (hl : xs.length < 1000000) (hc : D.cls 2 xs = true)
    (q : ∀ (v : D) (B' : Bag), B'.ok → v ∈ xs → Q v (B'.s0 :: B'.s1 :: R)) : WP (callR (CZ.run P (n + 1 + 1)) "_law_pick" 2 [.ref 1, .lst xs] (B.s0 :: B.s1 :: R)) Q := by
  refine WP_call2 (by show (true && ((D.cls 2 xs) && true)) = true; rw [hc] <;> rfl) ?_
  rw [run_some h' rfl]
  refine WP_bind ?_
  have hlen := List.length_pos_iff.mpr hx
  simp [c_law_pick]
  repeat refine WP_bind ?_
  refine wp_draw h (R := []) hB (by omega) (by omega) fun v B' hB' h0 h1 => ?_
  have hv : v.toNat < xs.length := by omega
  have e : L2.atI xs v = some xs[v.toNat] := by
    unfold L2.atI L2.ixN
    rw [if_pos h0, if_pos h1]
    exact List.getElem?_eq_getElem hv
  simp [e]
  have hm : xs[v.toNat] ∈ xs := List.getElem_mem hv
  refine ⟨B', ⟨rfl, rfl⟩, ?_, q _ B' hB' hm⟩
  have cm : ∀ (ys : List D), D.cls 2 ys = true → ∀ y ∈ ys, D.cl 2 y = true := fun ys => by
    induction ys with
    | nil => intro _ y hy; cases hy
    | cons z ys ih =>
      intro hz y hy
      have hz' : (z.cl 2 && D.cls 2 ys) = true := hz
      rw [Bool.and_eq_true] at hz'
      rcases List.mem_cons.mp hy with rfl | hy
      · exact hz'.1
      · exact ih hz'.2 y hy
  exact cm xs hc _ hm
/-! ### _law_same -/
mutual
/-- plain data: told and due -/
def D.pl : D → Nat → Bool
  | .non, k => decide (0 < k)
  | .bl _, k => decide (0 < k)
  | .int _, k => decide (0 < k)
  | .str _, k => decide (0 < k)
  | .tup xs, k => decide (0 < k) && decide (xs.length ≤ 1000000) && D.pls xs (k - 1)
  | _, _ => false
def D.pls : List D → Nat → Bool
  | [], _ => true
  | x :: r, k => x.pl k && D.pls r k
end
theorem pls_mem : ∀ {xs : List D} {k : Nat}, D.pls xs k = true → ∀ x ∈ xs, x.pl k = true
  | x :: r, k, h, y, hy => by
    have h' : (x.pl k && D.pls r k) = true := h
    rw [Bool.and_eq_true] at h'
    rcases List.mem_cons.mp hy with rfl | hy
    · exact h'.1
    · exact pls_mem h'.2 y hy
theorem pls_of : ∀ {xs : List D} {k : Nat}, (∀ x ∈ xs, x.pl k = true) → D.pls xs k = true
  | [], _, _ => rfl
  | x :: r, k, h => by
    show (x.pl k && D.pls r k) = true
    rw [h x (List.mem_cons_self ..), pls_of fun y hy => h y (List.mem_cons_of_mem _ hy)] <;> rfl
theorem cls_of : ∀ {xs : List D} {k : Nat}, (∀ x ∈ xs, x.cl k = true) → D.cls k xs = true
  | [], _, _ => rfl
  | x :: r, k, h => by
    show (x.cl k && D.cls k r) = true
    rw [h x (List.mem_cons_self ..), cls_of fun y hy => h y (List.mem_cons_of_mem _ hy)] <;> rfl
mutual
theorem pl_cl : ∀ (d : D) (k : Nat), d.pl k = true → d.cl 0 = true
  | .non, _, _ => rfl
  | .bl _, _, _ => rfl
  | .int _, _, _ => rfl
  | .str _, _, _ => rfl
  | .tup xs, k, h => by
    have h' : (decide (0 < k) && decide (xs.length ≤ 1000000) && D.pls xs (k - 1)) = true := h
    rw [Bool.and_eq_true] at h'
    exact pls_cls xs (k - 1) h'.2
  | .lst _, _, h => by cases h
  | .ref _, _, h => by cases h
  | .scr _, _, h => by cases h
  | .emp, _, h => by cases h
theorem pls_cls : ∀ (xs : List D) (k : Nat), D.pls xs k = true → D.cls 0 xs = true
  | [], _, _ => rfl
  | x :: r, k, h => by
    have h' : (x.pl k && D.pls r k) = true := h
    rw [Bool.and_eq_true] at h'
    show (x.cl 0 && D.cls 0 r) = true
    rw [pl_cl x k h'.1, pls_cls r k h'.2] <;> rfl
end
def allF (d : D) (M : Store) : Res D := opt ((match d with
    | .lst xs => blsD xs
    | _ => none).map fun (bs : List Bool) => D.bl (bs.all id)) M
@[simp] theorem blt_all (r : Bool) (x : D) (M : Store) : blt .all r [x] M = allF (x.look M) M := Eq.trans rfl rfl
theorem blsD_true {α : Type} (xs : List α) : blsD (xs.map fun _ => D.bl true) = some (xs.map fun _ => true) := by
  induction xs with
  | nil => rfl
  | cons n ns ih => show (blsD (ns.map fun _ => D.bl true)).map (true :: ·) = _; rw [ih] <;> rfl
@[simp] theorem allF_true {α : Type} (xs : List α) (M : Store) : allF (.lst (xs.map fun _ => D.bl true)) M = .ok (.bl true) M := by
  unfold allF
  simp [blsD_true]
theorem zip_self (xs : List D) : List.zipWith (fun u v => D.tup [u, v]) xs xs = xs.map fun u => D.tup [u, u] := by
  induction xs with
  | nil => rfl
  | cons x xs ih => simp
@[simp] theorem cop_eqs (i j : Str) : cop .eq (.str i) (.str j) = some (decide (i = j)) := Eq.trans rfl rfl
@[simp] theorem cop_eqb (i j : Bool) : cop .eq (.bl i) (.bl j) = some (decide (i = j)) := Eq.trans rfl rfl
theorem same_ok {P : Prg} (h : P.lookup ("_law_same" : Str) = some c_law_same) : ∀ (n : Nat) (d : D), d.pl n = true → Ans (CZ.run P n) "_law_same" [d, d] (.bl true) := by
  intro n
  induction n with
  | zero => intro d hd; cases d <;> simp [D.pl] at hd
  | succ n ih =>
    intro d hd
    refine ans_run h rfl ?_
    cases d with
    | non => simp [c_law_same, isiD]
    | bl b => simp [c_law_same, isiD]
    | int i => simp [c_law_same, isiD]
    | str s => simp [c_law_same, isiD]
    | tup xs =>
      have hd' : (decide (0 < n + 1) && decide (xs.length ≤ 1000000) && D.pls xs (n + 1 - 1)) = true := hd
      simp only [Bool.and_eq_true, decide_eq_true_eq] at hd'
      have hp : D.pls xs n = true := hd'.2
      simp [c_law_same, isiD, zip_self]
      rw [compL_map (fun _ => .bl true)]
      · simp [Function.comp_def]
      · intro x hx
        obtain ⟨u, hu, rfl⟩ := List.mem_map.mp hx
        have hu' := pls_mem hp u hu
        refine ⟨[some (.tup xs), some (.tup xs), some u, some u], rfl, rfl, ?_⟩
        simp
        exact callR0 (ih u hu') (by show (u.cl 0 && (u.cl 0 && true)) = true; rw [pl_cl u n hu'] <;> rfl) rfl
      · simp
        omega
    | lst _ => simp [D.pl] at hd
    | ref _ => simp [D.pl] at hd
    | scr _ => simp [D.pl] at hd
    | emp => simp [D.pl] at hd
theorem wp_same {P : Prg} (h : P.lookup ("_law_same" : Str) = some c_law_same) {n : Nat} {d e : D} {M : Store} {Q : D → Store → Prop} (he : d = e) (hd : d.pl n = true) (q : Q (.bl true) M) : WP (callR (CZ.run P n) "_law_same" 0 [d, e] M) Q := by
  subst he
  exact WP_call0 (same_ok h n d hd) (by show (d.cl 0 && (d.cl 0 && true)) = true; rw [pl_cl d n hd] <;> rfl) rfl q
/-! ### _law_own_bag -/
theorem compL_abs {Φ : Orac} {M : Store} {ρ : Env'} (hρ : ∃ a b c d, ρ = [a, b, c, d]) (ns : List Int) (hl : ns.length ≤ 1000) : ∃ ms : List Int, ms.length = ns.length ∧
    compL (ev Φ (.bin .mod (.blt .abs false (.cons (.var 3) .nil)) (.bin .shl (.kI 1) (.kI 2000)))) (fun ρ M => (ev Φ (.kB true) ρ M).bind truF) (.nm 3) ρ (ns.map .int) [] M = .ok (ms.map .int) M := by
  obtain ⟨a, b, c, d, rfl⟩ := hρ
  refine ⟨ns.map fun i => (if i < 0 then -i else i) % (1 * 2 ^ (2000 : Int).toNat), by simp, ?_⟩
  rw [compL_map (fun d => match d with
    | .int i => .int ((if i < 0 then -i else i) % (1 * 2 ^ (2000 : Int).toNat))
    | d => d)]
  · rw [List.map_map, List.map_map] <;> rfl
  · intro x hx
    obtain ⟨i, hi, rfl⟩ := List.mem_map.mp hx
    refine ⟨_, rfl, rfl, ?_⟩
    have hp : (0 : Int) < 1 * 2 ^ (2000 : Int).toNat := by
      rw [Int.one_mul]
      exact Int.pow_pos (by decide)
    simp only [ev_bin, ev_blt, evs_cons, ev_var, evs_nil, ev_kI, Res.bind_ok, List.set_cons_succ, List.set_cons_zero, List.getElem?_cons_succ, List.getElem?_cons_zero, slotF_some, blt_abs, bop_shl2000, opt_some, bop_mod hp]
  · simp
    omega
def OwI (L ρ3 : D) (ρ : Env') (M : Store) : Prop := ∃ (x : Option D) (m : Int), 0 ≤ m ∧ m < 2147483647 ∧ M = [] ∧ ρ = [some ρ3, some L, some (.int m), x]
theorem wp_own0 {P : Prg} {z : Int} (h : P.lookup ("_law_own_bag" : Str) = some (c_law_own_bag z)) (hz : 0 ≤ z ∧ z < 1000000) (n : Nat) (ns : List Int) : WP (CZ.run P (n + 1) "_law_own_bag" [.scr ns] []) fun d M' => ∃ B : Bag, B.ok ∧ M' = B.st ∧ d = .ref 1 := by
  rw [run_some h rfl]
  refine WP_bind ?_
  have hcut : (cut ns none (some 63)).length ≤ 63 := by
    unfold cut
    rw [List.length_take]
    have : HT.sIx ns.length ns.length (some 63) = min 63 ns.length := HT.sIx_nat ns.length ns.length 63
    omega
  obtain ⟨ms, hms, e1⟩ := compL_abs (Φ := CZ.run P n) (M := []) (ρ := [some (.scr ns), none, none, none]) ⟨_, _, _, _, rfl⟩ (cut ns none (some 63)) (by omega)
  simp only [c_law_own_bag, ex_seq, ex_set, ev_comp, evI_seq, ev_slc, ev_var, ev_kN, ev_kI, Res.bind_ok, List.map_cons, List.map_nil, List.cons_append, List.nil_append, List.length_cons, List.length_nil, Nat.zero_add, Nat.reduceSub, List.replicate, List.getElem?_cons_zero, slotF_some, partC, Option.bind_some, look_scr, slD, opt_some, itmF_lst]
  rw [e1]
  simp
  refine WP_bind (WP.mono (Q := fun f M => ∃ ρ, f = .nx ρ ∧ OwI (.lst (ms.map .int)) (.scr ns) ρ M) (WP_for (fun xs ρ M => (∀ x ∈ xs, ∃ i : Int, x = .int i) ∧ OwI (.lst (ms.map .int)) (.scr ns) ρ M) ⟨fun x hx => ?_, none, z + (ms.length : Int), by omega, by omega, rfl, rfl⟩ (fun x r ρ M hI => ?_) (fun ρ M hI => ⟨ρ, rfl, hI.2⟩)) (fun f M hf => ?_))
  · obtain ⟨i, _, rfl⟩ := List.mem_map.mp hx
    exact ⟨i, rfl⟩
  · obtain ⟨hx, x0, m, h0, h1, rfl, rfl⟩ := hI
    obtain ⟨i, rfl⟩ := hx x (List.mem_cons_self ..)
    refine ⟨_, rfl, ?_⟩
    have r := mod_range (i := m * 48271 + i % 2147483629 + 7) (j := 2147483647) (by decide)
    simp [b_law_own_bag_1, bop_mulS (i := m) (j := 48271) (by omega) (by decide), bop_mod (j := 2147483647) (by decide), bop_mod (j := 2147483629) (by decide)]
    exact ⟨fun x hx' => hx x (List.mem_cons_of_mem _ hx'), _, _, r.1, r.2, rfl, rfl⟩
  · obtain ⟨ρ, rfl, x0, m, h0, h1, rfl, rfl⟩ := hf
    simp
    exact ⟨⟨ms.reverse, 0, m⟩, ⟨h0, h1⟩, by rw [← List.map_reverse] <;> rfl, rfl⟩
theorem wp_own {P : Prg} {z : Int} (h : P.lookup ("_law_own_bag" : Str) = some (c_law_own_bag z)) (hz : 0 ≤ z ∧ z < 1000000) {n : Nat} {ns : List Int} {Q : D → Store → Prop} (q : ∀ B : Bag, B.ok → Q (.ref 1) [B.s0, B.s1]) : WP (callR (CZ.run P (n + 1)) "_law_own_bag" 0 [.scr ns] []) Q := by
  obtain ⟨d, M', e, B, hB, rfl, rfl⟩ := wp_own0 h hz n ns
  refine WP_of_eq (a := .ref 1) (M := B.st) ?_ (q B hB)
  unfold callR
  have hc : (D.cls 0 [D.scr ns] && (List.take 0 ([] : Store)).all (moCl 0) && decide (0 ≤ ([] : Store).length)) = true := rfl
  rw [if_pos hc]
  show callB 0 [] (CZ.run P (n + 1) "_law_own_bag" [.scr ns] []) = _
  rw [e]
  rfl
def appF (i : Nat) (o : Option MO) (d : D) (M : Store) : Res D := match o with
    | some (.lst xs) => if xs.length < sizeLine then .ok .non (M.set i (.lst (xs ++ [d]))) else .no
    | _ => .no
@[simp] theorem mth_app (i : Nat) (d : D) (M : Store) : mth .append (.ref i) [d] M = appF i M[i]? d M := Eq.trans rfl rfl
@[simp] theorem appF_lst (i : Nat) (xs : List D) (d : D) (M : Store) (h : xs.length < 1000000) : appF i (some (.lst xs)) d M = .ok .non (M.set i (.lst (xs ++ [d]))) := if_pos (by rw [PySem.sizeLine_eq]; omega)
def extF (i : Nat) (o : Option MO) (d : D) (M : Store) : Res D := match o, d with
    | some (.lst xs), .lst ys => if xs.length + ys.length ≤ sizeLine then .ok .non (M.set i (.lst (xs ++ ys))) else .no
    | _, _ => .no
@[simp] theorem mth_ext (i : Nat) (d : D) (M : Store) : mth .extend (.ref i) [d] M = extF i M[i]? (d.look M) M := Eq.trans rfl rfl
@[simp] theorem extF_lst (i : Nat) (xs ys : List D) (M : Store) (h : xs.length + ys.length ≤ 1000000) : extF i (some (.lst xs)) (.lst ys) M = .ok .non (M.set i (.lst (xs ++ ys))) := if_pos (by rw [PySem.sizeLine_eq]; omega)
def isLO (o : Option MO) : Bool := match o with
    | some (.lst _) => true
    | _ => false
@[simp] theorem isLO_lst (xs : List D) : isLO (some (.lst xs)) = true := Eq.trans rfl rfl
@[simp] theorem isL_ref (i : Nat) (M : Store) : isL (.ref i) M = isLO M[i]? := Eq.trans rfl rfl
def frzO (i : Nat) (o : Option MO) (M : Store) : Res D := match o with
    | some (.lst xs) => .ok (.lst xs) (M.set i .dead)
    | _ => .no
@[simp] theorem frzO_lst (i : Nat) (xs : List D) (M : Store) : frzO i (some (.lst xs)) M = .ok (.lst xs) (M.set i .dead) := Eq.trans rfl rfl
@[simp] theorem frzD_ref (i : Nat) (M : Store) : frzD (.ref i) M = frzO i M[i]? M := Eq.trans rfl rfl
def gfzO (i : Nat) (ρ : Env') (o : Option (Option D)) (M : Store) : Res Fl := match o with
    | some (some d) => (frzD d M).bind fun d M1 => .ok (.nx (ρ.set i (some d))) M1
    | _ => .no
@[simp] theorem gfzF_eq (i : Nat) (ρ : Env') (M : Store) : gfzF i ρ M = gfzO i ρ ρ[i]? M := Eq.trans rfl rfl
@[simp] theorem gfzO_some (i : Nat) (ρ : Env') (d : D) (M : Store) : gfzO i ρ (some (some d)) M = (frzD d M).bind fun d M1 => .ok (.nx (ρ.set i (some d))) M1 := Eq.trans rfl rfl
theorem rngL_len (i j : Int) : (rngL i j).length = (j - i).toNat := by simp [rngL]
theorem setT_nm {x : D} {ρ : Env'} {i : Nat} : setT (.nm i) x ρ = some (ρ.set i (some x)) := rfl
theorem WP_fn2 {P : Prg} {n : Nat} {f : Str} {c : CZ.Code} {ds : List D} {B : Bag} {R : Store} {Q : D → Store → Prop} (h : P.lookup f = some c) (hl : ds.length = c.np) (h1 : D.cls 2 ds = true)
    (w : WP (ex (CZ.run P n) c.body (ds.map some ++ List.replicate (c.ns - ds.length) none) [B.s0, B.s1]) fun fl M => WP (retF fl M) fun d M' => ∃ (B' : Bag) (X : Store), M' = B'.s0 :: B'.s1 :: X ∧ d.cl 2 = true ∧ Q d (B'.s0 :: B'.s1 :: R)) :
    WP (callR (CZ.run P (n + 1)) f 2 ds (B.s0 :: B.s1 :: R)) Q := by
  refine WP_call2 h1 ?_
  rw [run_some h hl]
  exact WP_bind w
@[simp] theorem partC_kN (d : D) : partC .kN d = some none := Eq.trans rfl rfl
@[simp] theorem partC_kI (i j : Int) : partC (.kI i) (.int j) = some (some j) := Eq.trans rfl rfl
@[simp] theorem partC_var (i : Nat) (j : Int) : partC (.var i) (.int j) = some (some j) := Eq.trans rfl rfl
@[simp] theorem slD_tup (xs : List D) (lo hi : Option Int) : slD (.tup xs) lo hi = some (.tup (cut xs lo hi)) := Eq.trans rfl rfl
@[simp] theorem slD_lst (xs : List D) (lo hi : Option Int) : slD (.lst xs) lo hi = some (.lst (cut xs lo hi)) := Eq.trans rfl rfl
theorem cut_mem {α : Type} {xs : List α} {lo hi : Option Int} {x : α} (h : x ∈ cut xs lo hi) : x ∈ xs := List.mem_of_mem_drop (List.mem_of_mem_take h)
theorem compL_mapF {α : Type} {fe : Env' → Store → Res D} {fc : Env' → Store → Res Bool} {tg : Tg} {ρ : Env'} {M : Store} (f h : α → D) : ∀ (xs : List α) (acc : List D), (∀ x ∈ xs, ∃ ρ', setT tg (f x) ρ = some ρ' ∧ fc ρ' M = .ok true M ∧ fe ρ' M = .ok (h x) M) → acc.length + xs.length ≤ 1000000 →
    compL fe fc tg ρ (xs.map f) acc M = .ok (acc ++ xs.map h) M
  | [], acc, _, _ => by simp [compL]
  | x :: r, acc, hh, hz => by
    obtain ⟨ρ', h1, h2, h3⟩ := hh x (List.mem_cons_self ..)
    simp only [List.length_cons] at hz
    rw [List.map_cons, compL, h1]
    show (fc ρ' M).bind _ = _
    rw [h2, Res.bind_ok, if_pos rfl, h3, Res.bind_ok, if_pos (by rw [PySem.sizeLine_eq]; omega), compL_mapF f h r (acc ++ [h x]) (fun y hy => hh y (List.mem_cons_of_mem _ hy)) (by simp; omega)]
    simp
/-- with a condition -/
theorem compL_mapP {α : Type} {fe : Env' → Store → Res D} {fc : Env' → Store → Res Bool} {tg : Tg} {ρ : Env'} {M : Store} (f h : α → D) (p : α → Bool) : ∀ (xs : List α) (acc : List D), (∀ x ∈ xs, ∃ ρ', setT tg (f x) ρ = some ρ' ∧ fc ρ' M = .ok (p x) M ∧ (p x = true → fe ρ' M = .ok (h x) M)) → acc.length + xs.length ≤ 1000000 →
    compL fe fc tg ρ (xs.map f) acc M = .ok (acc ++ (xs.filter p).map h) M
  | [], acc, _, _ => by simp [compL]
  | x :: r, acc, hh, hz => by
    obtain ⟨ρ', h1, h2, h3⟩ := hh x (List.mem_cons_self ..)
    have hr : ∀ y ∈ r, _ := fun y hy => hh y (List.mem_cons_of_mem _ hy)
    simp only [List.length_cons] at hz
    rw [List.map_cons, compL, h1]
    show (fc ρ' M).bind _ = _
    rw [h2, Res.bind_ok]
    cases hp : p x with
    | true =>
      rw [if_pos rfl, h3 hp, Res.bind_ok, if_pos (by rw [PySem.sizeLine_eq]; omega), compL_mapP f h p r (acc ++ [h x]) hr (by simp; omega), List.filter_cons, if_pos hp]
      simp
    | false =>
      rw [if_neg Bool.false_ne_true, compL_mapP f h p r acc hr (by omega), List.filter_cons, if_neg (by rw [hp]; exact Bool.false_ne_true)]
def anyF (d : D) (M : Store) : Res D := opt ((match d with
    | .lst xs => blsD xs
    | _ => none).map fun (bs : List Bool) => D.bl (bs.any id)) M
@[simp] theorem blt_any (r : Bool) (x : D) (M : Store) : blt .any r [x] M = anyF (x.look M) M := Eq.trans rfl rfl
theorem blsD_map {α : Type} (f : α → Bool) (xs : List α) : blsD (xs.map fun a => D.bl (f a)) = some (xs.map f) := by
  induction xs with
  | nil => rfl
  | cons n ns ih => show (blsD (ns.map fun a => D.bl (f a))).map (f n :: ·) = _; rw [ih] <;> rfl
theorem anyF_map {α : Type} (f : α → Bool) (xs : List α) (M : Store) : anyF (.lst (xs.map fun a => D.bl (f a))) M = .ok (.bl (xs.any f)) M := by
  unfold anyF
  simp [blsD_map, Function.comp_def]
theorem allF_map {α : Type} (f : α → Bool) (xs : List α) (M : Store) : allF (.lst (xs.map fun a => D.bl (f a))) M = .ok (.bl (xs.all f)) M := by
  unfold allF
  simp [blsD_map, Function.comp_def]
theorem atI_last {α : Type} (xs : List α) (x : α) : L2.atI (xs ++ [x]) (-1) = some x := by
  unfold L2.atI L2.ixN
  rw [if_neg (by decide), if_pos (by simp only [List.length_append, List.length_cons, List.length_nil]; omega)]
  have e : (-1 + ((xs ++ [x]).length : Int)).toNat = xs.length := by rw [List.length_append]; simp only [List.length_cons, List.length_nil]; omega
  show (xs ++ [x])[(-1 + ((xs ++ [x]).length : Int)).toNat]? = some x
  rw [e]
  simp
theorem atI_nat {α : Type} (xs : List α) (k : Nat) (h : k < xs.length) : L2.atI xs (k : Int) = xs[k]? := by
  unfold L2.atI L2.ixN
  rw [if_pos (by omega), if_pos (by omega)]
  show xs[(k : Int).toNat]? = _
  rw [Int.toNat_natCast]
theorem inD_ints (x : Int) (ns : List Int) : inD (.int x) (.lst (ns.map .int)) = some (decide (x ∈ ns)) := by
  have h1 : ((ns.map D.int).all fun z => z.scv.isSome) = true := by
    rw [List.all_eq_true]
    intro z hz
    obtain ⟨i, _, rfl⟩ := List.mem_map.mp hz
    rfl
  show (if (D.int x).scv.isSome && (ns.map D.int).all (fun z => z.scv.isSome) then some ((ns.map D.int).any fun z => eqS z (.int x)) else none) = _
  rw [h1, if_pos (by rfl)]
  congr 1
  induction ns with
  | nil => rfl
  | cons n ns ih =>
    have h2 : ((ns.map D.int).all fun z => z.scv.isSome) = true := by
      rw [List.map_cons, List.all_cons, Bool.and_eq_true] at h1
      exact h1.2
    rw [List.map_cons, List.any_cons, ih h2]
    have e : eqS (.int n) (.int x) = decide (n = x) := rfl
    rw [e]
    by_cases h : n = x
    · simp [h]
    · have h' : ¬ x = n := fun q => h q.symm
      simp [h, h']
@[simp] theorem cop_isin (x : Int) (ns : List Int) : cop .isin (.int x) (.lst (ns.map .int)) = some (decide (x ∈ ns)) := inD_ints x ns
@[simp] theorem cop_notin (x : Int) (ns : List Int) : cop .notin (.int x) (.lst (ns.map .int)) = some (!decide (x ∈ ns)) := by
  show (inD (.int x) (.lst (ns.map .int))).map (!·) = _
  rw [inD_ints] <;> rfl
noncomputable def chnF (Φ : Orac) (o p : CO) (c : C) (ρ : Env') (x y : D) (M2 : Store) : Res D := match cop o x y with
    | some true => (ev Φ c ρ M2).bind fun z M3 => opt ((cop p y z).map .bl) M3
    | some false => .ok (.bl false) M2
    | none => .no
@[simp] theorem ev_chn (Φ : Orac) (o p : CO) (a b c : C) (ρ : Env') (M : Store) : ev Φ (.chn o p a b c) ρ M = (ev Φ a ρ M).bind fun x M1 => (ev Φ b ρ M1).bind fun y M2 => chnF Φ o p c ρ x y M2 := Eq.trans rfl rfl
theorem chnF_some {Φ : Orac} {o p : CO} {c : C} {ρ : Env'} {x y : D} {M2 : Store} {t : Bool} (h : cop o x y = some t) : chnF Φ o p c ρ x y M2 = if t then (ev Φ c ρ M2).bind fun z M3 => opt ((cop p y z).map .bl) M3 else .ok (.bl false) M2 := by
  unfold chnF
  rw [h]
  cases t <;> rfl
@[simp] theorem chnF_le (Φ : Orac) (p : CO) (c : C) (ρ : Env') (i j : Int) (M2 : Store) : chnF Φ .le p c ρ (.int i) (.int j) M2 = if i ≤ j then (ev Φ c ρ M2).bind fun z M3 => opt ((cop p (.int j) z).map .bl) M3 else .ok (.bl false) M2 := by
  rw [chnF_some (t := decide (i ≤ j)) rfl]
  by_cases h : i ≤ j <;> simp [h]
end CZ

set_option Elab.async false
set_option linter.all false
set_option maxRecDepth 100000
set_option maxHeartbeats 0
namespace Lk73
open PySem PySem.Spec PyProof.Rows L2 CZ
def top (i : Nat) : Stmt := PySem.Challenge.pw_costsahead_k73_whole_windows_beside_queu.main.body.getD i (.Pass ⟨0, 0, 0, 0⟩)
def en (x : Str) (i : Nat) (N ps : List Str) (c : CZ.Code) : Ent := ⟨x, defArgs (top i), defBody (top i), defScope (top i), N, ps, c⟩
def b_after_place_1 : S := (.seq (.set 3 (.slc (.var 3) .kN (.neg (.kI 1)))) .skip)
def c_after_place : CZ.Code := ⟨3, 4, (.seq (.set 3 (.var 1)) (.seq (.while (.and (.cmp .ne (.var 3) (.tup .nil)) (.cmp .ge (.idx (.var 0) (.idx (.var 3) (.neg (.kI 1)))) (.idx (.var 0) (.var 2)))) b_after_place_1) (.seq (.ret (.bin .add (.var 3) (.tup (.cons (.var 2) .nil)))) .skip)))⟩
def b_stacks_of_1 : S := (.seq (.set 2 (.call "after_place" 0 (.cons (.var 0) (.cons (.var 2) (.cons (.var 1) .nil))))) (.seq (.exp (.mth .append (.var 3) (.cons (.var 2) .nil))) .skip))
def c_stacks_of : CZ.Code := ⟨1, 4, (.seq (.par2 2 3 (.tup .nil) (.lst true .nil)) (.seq (.loop (.nm 1) (.rng (.kI 0) (.blt .len false (.cons (.var 0) .nil))) b_stacks_of_1) (.seq (.gfz 3) (.seq (.ret (.var 3)) .skip))))⟩
def c_least_stack : CZ.Code := ⟨1, 1, (.seq (.ret (.ifx (.cmp .ne (.var 0) (.tup .nil)) (.idx (.call "stacks_of" 0 (.cons (.var 0) .nil)) (.neg (.kI 1))) (.tup .nil))) .skip)⟩
def c_least_ahead : CZ.Code := ⟨1, 2, (.seq (.ret (.blt .tuple false (.cons (.comp false (.ifx (.cmp .gt (.blt .len false (.cons (.var 1) .nil)) (.kI 1)) (.idx (.var 1) (.neg (.kI 2))) (.kN)) (.nm 1) (.seq (.call "stacks_of" 0 (.cons (.var 0) .nil))) (.kB true)) .nil))) .skip)⟩
def c_least_costs : CZ.Code := ⟨1, 5, (.seq (.set 1 (.bin .add (.lst false (.cons (.kI 0) .nil)) (.comp false (.blt .len false (.cons (.var 2) .nil)) (.nm 2) (.seq (.call "stacks_of" 0 (.cons (.var 0) .nil))) (.kB true)))) (.seq (.ret (.blt .tuple false (.cons (.comp false (.bin .sub (.bin .add (.var 3) (.kI 2)) (.var 4)) (.tp [3, 4]) (.zip (.slc (.var 1) .kN (.neg (.kI 1))) (.slc (.var 1) (.kI 1) .kN)) (.kB true)) .nil))) .skip))⟩
def b_window_stacks_1 : S := (.seq (.ife (.and (.cmp .ne (.var 3) (.tup .nil)) (.cmp .le (.idx (.var 3) (.kI 0)) (.bin .sub (.var 2) (.var 1)))) (.seq (.set 3 (.slc (.var 3) (.kI 1) .kN)) .skip) .skip) (.seq (.set 3 (.call "after_place" 0 (.cons (.var 0) (.cons (.var 3) (.cons (.var 2) .nil))))) (.seq (.exp (.mth .append (.var 4) (.cons (.var 3) .nil))) .skip)))
def c_window_stacks : CZ.Code := ⟨2, 5, (.seq (.par2 3 4 (.tup .nil) (.lst true .nil)) (.seq (.loop (.nm 2) (.rng (.kI 0) (.blt .len false (.cons (.var 0) .nil))) b_window_stacks_1) (.seq (.gfz 4) (.seq (.ret (.var 4)) .skip))))⟩
def c_window_least : CZ.Code := ⟨2, 3, (.seq (.ret (.blt .tuple false (.cons (.comp false (.idx (.var 0) (.idx (.var 2) (.kI 0))) (.nm 2) (.seq (.slc (.call "window_stacks" 0 (.cons (.var 0) (.cons (.var 1) .nil))) (.bin .sub (.var 1) (.kI 1)) .kN)) (.kB true)) .nil))) .skip)⟩
def c_window_cost : CZ.Code := ⟨2, 2, (.seq (.ret (.bin .sub (.bin .mul (.kI 2) (.blt .len false (.cons (.var 0) .nil))) (.blt .len false (.cons (.idx (.call "window_stacks" 0 (.cons (.var 0) (.cons (.var 1) .nil))) (.neg (.kI 1))) .nil)))) .skip)⟩
def b_lowest_1 : S := (.seq (.par2 2 3 (.var 3) (.bin .mod (.var 2) (.var 3))) .skip)
def c_lowest : CZ.Code := ⟨2, 4, (.seq (.par2 2 3 (.blt .abs false (.cons (.var 0) .nil)) (.var 1)) (.seq (.while (.cmp .ne (.var 3) (.kI 0)) b_lowest_1) (.seq (.ret (.tup (.cons (.bin .fdv (.var 0) (.var 2)) (.cons (.bin .fdv (.var 1) (.var 2)) .nil)))) .skip)))⟩
def c_queue_put : CZ.Code := ⟨2, 2, (.seq (.ret (.tup (.cons (.idx (.var 0) (.kI 0)) (.cons (.bin .add (.idx (.var 0) (.kI 1)) (.tup (.cons (.var 1) .nil))) .nil)))) .skip)⟩
def c_turned_over : CZ.Code := ⟨1, 3, (.seq (.unp [1, 2] (.var 0)) (.seq (.ife (.cmp .ne (.var 1) (.tup .nil)) (.seq (.ret (.var 0)) .skip) .skip) (.seq (.ife (.cmp .eq (.var 2) (.tup .nil)) (.seq (.raise "" .nil) .skip) .skip) (.seq (.ret (.tup (.cons (.rev (.var 2)) (.cons (.tup .nil) .nil)))) .skip))))⟩
def c_queue_take : CZ.Code := ⟨1, 3, (.seq (.unp [1, 2] (.call "turned_over" 0 (.cons (.var 0) .nil))) (.seq (.ret (.tup (.cons (.idx (.var 1) (.neg (.kI 1))) (.cons (.tup (.cons (.slc (.var 1) .kN (.neg (.kI 1))) (.cons (.var 2) .nil))) .nil)))) .skip))⟩
def c_queue_cost : CZ.Code := ⟨2, 2, (.seq (.ife (.cmp .eq (.var 1) (.kS "put")) (.seq (.ret (.kI 1)) .skip) .skip) (.seq (.ret (.bin .sub (.bin .add (.kI 1) (.blt .len false (.cons (.idx (.var 0) (.kI 1)) .nil))) (.blt .len false (.cons (.idx (.call "turned_over" 0 (.cons (.var 0) .nil)) (.kI 1)) .nil)))) .skip))⟩
def c_queue_potential : CZ.Code := ⟨1, 1, (.seq (.ret (.blt .len false (.cons (.idx (.var 0) (.kI 1)) .nil))) .skip)⟩
def b_queue_run_1 : S := (.seq (.ife (.isN (.var 2)) (.seq (.exp (.mth .append (.var 4) (.cons (.call "queue_cost" 0 (.cons (.var 0) (.cons (.kS "take") .nil))) .nil))) (.seq (.unp [5, 0] (.call "queue_take" 0 (.cons (.var 0) .nil))) (.seq (.exp (.mth .append (.var 3) (.cons (.var 5) .nil))) .skip))) (.seq (.exp (.mth .append (.var 4) (.cons (.kI 1) .nil))) (.seq (.set 0 (.call "queue_put" 0 (.cons (.var 0) (.cons (.var 2) .nil)))) .skip))) .skip)
def c_queue_run : CZ.Code := ⟨2, 6, (.seq (.par2 3 4 (.lst true .nil) (.lst true .nil)) (.seq (.loop (.nm 2) (.seq (.var 1)) b_queue_run_1) (.seq (.ret (.tup (.cons (.blt .tuple false (.cons (.var 3) .nil)) (.cons (.blt .tuple false (.cons (.var 4) .nil)) .nil)))) .skip)))⟩
def c_front_filled : CZ.Code := ⟨1, 4, (.seq (.unp [2, 3] (.var 0)) (.seq (.ife (.cmp .ne (.var 2) (.tup .nil)) (.seq (.ret (.tup (.cons (.var 0) (.cons (.kI 0) .nil)))) .skip) .skip) (.seq (.ife (.cmp .eq (.var 3) (.tup .nil)) (.seq (.raise "" .nil) .skip) .skip) (.seq (.set 1 (.bin .fdv (.bin .add (.blt .len false (.cons (.var 3) .nil)) (.kI 1)) (.kI 2))) (.seq (.ret (.tup (.cons (.tup (.cons (.rev (.slc (.var 3) .kN (.var 1))) (.cons (.slc (.var 3) (.var 1) .kN) .nil))) (.cons (.var 1) .nil)))) .skip)))))⟩
def c_front_taken : CZ.Code := ⟨1, 3, (.seq (.unp [1, 2] (.call "front_filled" 0 (.cons (.var 0) .nil))) (.seq (.ret (.tup (.cons (.tup (.cons (.slc (.idx (.var 1) (.kI 0)) .kN (.neg (.kI 1))) (.cons (.idx (.var 1) (.kI 1)) .nil))) (.cons (.bin .add (.var 2) (.kI 1)) .nil)))) .skip))⟩
def c_ends_step : CZ.Code := ⟨3, 7, (.seq (.unp [3, 4] (.var 0)) (.seq (.ife (.cmp .eq (.var 1) (.kS "putfront")) (.seq (.ret (.tup (.cons (.tup (.cons (.bin .add (.var 3) (.tup (.cons (.var 2) .nil))) (.cons (.var 4) .nil))) (.cons (.kI 1) .nil)))) .skip) .skip) (.seq (.ife (.cmp .eq (.var 1) (.kS "putback")) (.seq (.ret (.tup (.cons (.tup (.cons (.var 3) (.cons (.bin .add (.var 4) (.tup (.cons (.var 2) .nil))) .nil))) (.cons (.kI 1) .nil)))) .skip) .skip) (.seq (.ife (.cmp .eq (.var 1) (.kS "takefront")) (.seq (.ret (.call "front_taken" 0 (.cons (.var 0) .nil))) .skip) .skip) (.seq (.unp [5, 6] (.call "front_taken" 0 (.cons (.tup (.cons (.var 4) (.cons (.var 3) .nil))) .nil))) (.seq (.ret (.tup (.cons (.tup (.cons (.idx (.var 5) (.kI 1)) (.cons (.idx (.var 5) (.kI 0)) .nil))) (.cons (.var 6) .nil)))) .skip))))))⟩
def c_ends_after : CZ.Code := ⟨3, 3, (.seq (.ret (.idx (.call "ends_step" 0 (.cons (.var 0) (.cons (.var 1) (.cons (.var 2) .nil)))) (.kI 0))) .skip)⟩
def c_ends_potential : CZ.Code := ⟨1, 1, (.seq (.ret (.call "lowest" 0 (.cons (.blt .abs false (.cons (.bin .sub (.blt .len false (.cons (.idx (.var 0) (.kI 0)) .nil)) (.blt .len false (.cons (.idx (.var 0) (.kI 1)) .nil))) .nil)) (.cons (.kI 2) .nil)))) .skip)⟩
def b_ends_run_1 : S := (.seq (.unp [2, 6] (.call "ends_step" 0 (.cons (.var 2) (.cons (.var 4) (.cons (.var 5) .nil))))) (.seq (.exp (.mth .append (.var 3) (.cons (.var 6) .nil))) .skip))
def c_ends_run : CZ.Code := ⟨2, 7, (.seq (.par2 2 3 (.var 0) (.lst true .nil)) (.seq (.loop (.tp [4, 5]) (.seq (.var 1)) b_ends_run_1) (.seq (.ret (.blt .tuple false (.cons (.var 3) .nil))) .skip)))⟩
def c_many_after : CZ.Code := ⟨2, 2, (.seq (.ret (.ifx (.isN (.var 1)) (.bin .add (.var 0) (.kI 1)) (.blt .max2 false (.cons (.kI 0) (.cons (.bin .sub (.var 0) (.var 1)) .nil))))) .skip)⟩
def c_many_cost : CZ.Code := ⟨2, 2, (.seq (.ret (.ifx (.isN (.var 1)) (.kI 1) (.bin .add (.kI 1) (.blt .min2 false (.cons (.var 0) (.cons (.var 1) .nil)))))) .skip)⟩
def b_many_run_1 : S := (.seq (.exp (.mth .append (.var 4) (.cons (.call "many_cost" 0 (.cons (.var 3) (.cons (.var 2) .nil))) .nil))) (.seq (.set 3 (.call "many_after" 0 (.cons (.var 3) (.cons (.var 2) .nil)))) .skip))
def c_many_run : CZ.Code := ⟨2, 5, (.seq (.par2 3 4 (.var 0) (.lst true .nil)) (.seq (.loop (.nm 2) (.seq (.var 1)) b_many_run_1) (.seq (.ret (.blt .tuple false (.cons (.var 4) .nil))) .skip)))⟩
def b_law_own_bag_1 : S := (.seq (.set 2 (.bin .mod (.bin .add (.bin .add (.bin .mul (.var 2) (.kI 48271)) (.bin .mod (.var 3) (.kI 2147483629))) (.kI 7)) (.kI 2147483647))) .skip)
def c_law_own_bag : CZ.Code := ⟨1, 4, (.seq (.set 1 (.comp false (.bin .mod (.blt .abs false (.cons (.var 3) .nil)) (.bin .shl (.kI 1) (.kI 2000))) (.nm 3) (.seq (.slc (.var 0) .kN (.kI 63))) (.kB true))) (.seq (.set 2 (.bin .add (.kI 73) (.blt .len false (.cons (.var 1) .nil)))) (.seq (.loop (.nm 3) (.seq (.var 1)) b_law_own_bag_1) (.seq (.ret (.lst true (.cons (.lrev true (.blt .list false (.cons (.var 1) .nil))) (.cons (.kI 0) (.cons (.var 2) .nil))))) .skip))))⟩
def b_law_draw_1 : S := (.seq (.ife (.or (.cmp .gt (.idx (.var 0) (.kI 1)) (.kI 0)) (.cmp .eq (.idx (.var 0) (.kI 0)) (.lst false .nil))) (.seq (.brk) .skip) .skip) (.seq (.set 3 (.mth .pop (.idx (.var 0) (.kI 0)) .nil)) (.seq (.sti (.var 0) (.kI 1) (.ifx (.cmp .gt (.var 3) (.bin .pow (.kI 10) (.kI 9))) (.var 3) (.kI 0))) .skip)))
def c_law_draw : CZ.Code := ⟨2, 5, (.seq (.loop (.nm 2) (.rng (.kI 0) (.kI 64)) b_law_draw_1) (.seq (.ife (.cmp .gt (.idx (.var 0) (.kI 1)) (.kI 0)) (.seq (.set 4 (.bin .mod (.blt .int false (.cons (.idx (.var 0) (.kI 1)) .nil)) (.var 1))) (.seq (.sti (.var 0) (.kI 1) (.ifx (.cmp .gt (.var 1) (.kI 1)) (.bin .fdv (.idx (.var 0) (.kI 1)) (.var 1)) (.bin .fdv (.idx (.var 0) (.kI 1)) (.kI 2)))) (.seq (.ret (.var 4)) .skip))) .skip) (.seq (.sti (.var 0) (.kI 2) (.bin .mod (.bin .add (.bin .mul (.blt .int false (.cons (.idx (.var 0) (.kI 2)) .nil)) (.kI 48271)) (.kI 11)) (.kI 2147483647))) (.seq (.ret (.bin .mod (.bin .fdv (.bin .mod (.blt .int false (.cons (.bin .mul (.idx (.var 0) (.kI 2)) (.idx (.var 0) (.kI 2))) .nil)) (.kI 2147483629)) (.kI 7)) (.var 1))) .skip))))⟩
def c_law_pick : CZ.Code := ⟨2, 2, (.seq (.ret (.idx (.var 1) (.call "_law_draw" 2 (.cons (.var 0) (.cons (.blt .len false (.cons (.var 1) .nil)) .nil))))) .skip)⟩
def c_law_same : CZ.Code := ⟨2, 4, (.seq (.ife (.isi (.var 1) .tuple) (.seq (.ife (.or (.not (.isi (.var 0) .tuple)) (.cmp .ne (.blt .len false (.cons (.var 0) .nil)) (.blt .len false (.cons (.var 1) .nil)))) (.seq (.ret (.kB false)) .skip) .skip) (.seq (.ret (.blt .all false (.cons (.comp false (.call "_law_same" 0 (.cons (.var 2) (.cons (.var 3) .nil))) (.tp [2, 3]) (.zip (.var 0) (.var 1)) (.kB true)) .nil))) .skip)) .skip) (.seq (.ife (.isN (.var 1)) (.seq (.ret (.isN (.var 0))) .skip) .skip) (.seq (.ife (.isi (.var 1) .bool) (.seq (.ret (.and (.isi (.var 0) .bool) (.cmp .eq (.var 0) (.var 1)))) .skip) .skip) (.seq (.ife (.isi (.var 1) .str) (.seq (.ret (.and (.isi (.var 0) .str) (.cmp .eq (.var 0) (.var 1)))) .skip) .skip) (.seq (.ret (.and (.isi (.var 0) .int) (.and (.not (.isi (.var 0) .bool)) (.cmp .eq (.var 0) (.var 1))))) .skip)))))⟩
def c_law_row : CZ.Code := ⟨1, 6, (.seq (.par2 3 4 (.call "_law_pick" 2 (.cons (.var 0) (.cons (.lst false (.cons (.kI 1) (.cons (.kI 2) (.cons (.kI 5) (.cons (.kI 60) (.cons (.bin .add (.kI 1) (.call "_law_draw" 2 (.cons (.var 0) (.cons (.kI 60) .nil)))) .nil)))))) .nil))) (.call "_law_draw" 2 (.cons (.var 0) (.cons (.kI 5) .nil)))) (.seq (.set 1 (.call "_law_pick" 2 (.cons (.var 0) (.cons (.lst false (.cons (.kI 2) (.cons (.kI 5) (.cons (.kI 1000) .nil)))) .nil)))) (.seq (.set 2 (.comp false (.call "_law_draw" 2 (.cons (.var 0) (.cons (.var 1) .nil))) (.nm 5) (.rng (.kI 0) (.var 3)) (.kB true))) (.seq (.ife (.cmp .eq (.var 4) (.kI 0)) (.seq (.set 2 (.blt .sorted false (.cons (.var 2) .nil))) .skip) .skip) (.seq (.ife (.cmp .eq (.var 4) (.kI 1)) (.seq (.set 2 (.lrev false (.blt .sorted false (.cons (.var 2) .nil)))) .skip) .skip) (.seq (.ret (.blt .tuple false (.cons (.var 2) .nil))) .skip))))))⟩
def b_law_stack_1 : S := (.seq (.ife (.and (.cmp .ne (.var 2) (.lst false .nil)) (.cmp .le (.idx (.var 2) (.kI 0)) (.bin .sub (.var 7) (.var 1)))) (.seq (.par2 2 5 (.slc (.var 2) (.kI 1) .kN) (.bin .add (.var 5) (.kI 1))) .skip) .skip) (.seq (.set 9 (.blt .len false (.cons (.comp false (.var 10) (.nm 10) (.seq (.var 2)) (.cmp .ge (.idx (.var 0) (.var 10)) (.var 8))) .nil))) (.seq (.set 2 (.slcL (.var 2) .kN (.bin .sub (.blt .len false (.cons (.var 2) .nil)) (.var 9)))) (.seq (.exp (.mth .append (.var 3) (.cons (.ifx (.cmp .ne (.var 2) (.lst false .nil)) (.idx (.var 2) (.neg (.kI 1))) (.kN)) .nil))) (.seq (.exp (.mth .append (.var 4) (.cons (.bin .add (.var 9) (.kI 1)) .nil))) (.seq (.set 5 (.bin .add (.bin .add (.var 5) (.var 9)) (.kI 1))) (.seq (.exp (.mth .append (.var 2) (.cons (.var 7) .nil))) (.seq (.gfz 2) (.seq (.ife (.cmp .ge (.var 7) (.bin .sub (.var 1) (.kI 1))) (.seq (.exp (.mth .append (.var 6) (.cons (.idx (.var 0) (.idx (.var 2) (.kI 0))) .nil))) .skip) .skip) .skip)))))))))
def c_law_stack : CZ.Code := ⟨2, 11, (.seq (.unp [2, 3, 4, 5, 6] (.tup (.cons (.lst false .nil) (.cons (.lst true .nil) (.cons (.lst true .nil) (.cons (.kI 0) (.cons (.lst true .nil) .nil))))))) (.seq (.loop (.tp [7, 8]) (.enm (.var 0)) b_law_stack_1) (.seq (.ret (.lst false (.cons (.blt .tuple false (.cons (.var 2) .nil)) (.cons (.blt .tuple false (.cons (.var 3) .nil)) (.cons (.blt .tuple false (.cons (.var 4) .nil)) (.cons (.var 5) (.cons (.blt .tuple false (.cons (.var 6) .nil)) .nil))))))) .skip)))⟩
def b_law_nearest_1 : S := (.seq (.set 3 (.comp false (.var 4) (.nm 4) (.rng (.kI 0) (.var 2)) (.cmp .lt (.idx (.var 0) (.var 4)) (.idx (.var 0) (.var 2))))) (.seq (.exp (.mth .append (.var 1) (.cons (.ifx (.cmp .ne (.var 3) (.lst false .nil)) (.idx (.var 3) (.neg (.kI 1))) (.kN)) .nil))) .skip))
def c_law_nearest : CZ.Code := ⟨1, 5, (.seq (.set 1 (.lst true .nil)) (.seq (.loop (.nm 2) (.rng (.kI 0) (.blt .len false (.cons (.var 0) .nil))) b_law_nearest_1) (.seq (.ret (.blt .tuple false (.cons (.var 1) .nil))) .skip)))⟩
def c_law_is_stack_right : CZ.Code := ⟨2, 14, (.seq (.set 2 (.blt .len false (.cons (.var 0) .nil))) (.seq (.unp [5, 6, 7, 8, 9] (.call "_law_stack" 0 (.cons (.var 0) (.cons (.var 2) .nil)))) (.seq (.set 3 (.tup (.cons (.call "least_stack" 0 (.cons (.var 0) .nil)) (.cons (.call "least_ahead" 0 (.cons (.var 0) .nil)) (.cons (.call "least_costs" 0 (.cons (.var 0) .nil)) (.cons (.callK "least_stack" 0 .nil (.cons (.var 0) .nil) [0]) (.cons (.callK "least_ahead" 0 .nil (.cons (.var 0) .nil) [0]) .nil))))))) (.seq (.ife (.or (.not (.call "_law_same" 0 (.cons (.var 3) (.cons (.tup (.cons (.var 5) (.cons (.var 6) (.cons (.var 7) (.cons (.var 5) (.cons (.var 6) .nil)))))) .nil)))) (.not (.call "_law_same" 0 (.cons (.callK "least_costs" 0 .nil (.cons (.var 0) .nil) [0]) (.cons (.var 7) .nil))))) (.seq (.ret (.kB false)) .skip) .skip) (.seq (.ife (.or (.cmp .ne (.var 6) (.call "_law_nearest" 0 (.cons (.var 0) .nil))) (.cmp .ne (.blt .sum false (.cons (.var 7) .nil)) (.bin .sub (.bin .mul (.kI 2) (.var 2)) (.blt .len false (.cons (.var 5) .nil))))) (.seq (.ret (.kB false)) .skip) .skip) (.seq (.unp [10, 11, 12, 8, 9] (.call "_law_stack" 0 (.cons (.var 0) (.cons (.var 1) .nil)))) (.seq (.set 4 (.blt .tuple false (.cons (.comp false (.blt .min1 false (.cons (.slc (.var 0) (.var 13) (.bin .add (.var 13) (.var 1))) .nil)) (.nm 13) (.rng (.kI 0) (.bin .add (.bin .sub (.var 2) (.var 1)) (.kI 1))) (.kB true)) .nil))) (.seq (.set 3 (.tup (.cons (.call "window_least" 0 (.cons (.var 0) (.cons (.var 1) .nil))) (.cons (.callK "window_least" 0 .nil (.cons (.var 1) (.cons (.var 0) .nil)) [1, 0]) (.cons (.call "window_cost" 0 (.cons (.var 0) (.cons (.var 1) .nil))) (.cons (.callK "window_cost" 0 .nil (.cons (.var 1) (.cons (.var 0) .nil)) [1, 0]) .nil)))))) (.seq (.ife (.or (.cmp .ne (.var 9) (.var 4)) (.not (.call "_law_same" 0 (.cons (.var 3) (.cons (.tup (.cons (.var 4) (.cons (.var 4) (.cons (.var 8) (.cons (.var 8) .nil))))) .nil))))) (.seq (.ret (.kB false)) .skip) .skip) (.seq (.ret (.and (.cmp .eq (.var 8) (.bin .sub (.bin .mul (.kI 2) (.var 2)) (.blt .len false (.cons (.var 10) .nil)))) (.call "_law_same" 0 (.cons (.call "window_cost" 0 (.cons (.var 0) (.cons (.var 2) .nil))) (.cons (.blt .sum false (.cons (.var 7) .nil)) .nil))))) .skip))))))))))⟩
def b_law_are_takings_right_1 : S := (.seq (.exp (.mth .extend (.var 5) (.cons (.lst false (.cons (.bin .sub (.var 1) (.kI 1)) (.cons (.kN) .nil))) .nil))) .skip)
def b_law_are_takings_right_2 : S := (.seq (.exp (.mth .extend (.var 3) (.cons (.lst false (.cons (.var 1) (.cons (.kI 1) .nil))) .nil))) .skip)
def c_law_are_takings_right : CZ.Code := ⟨1, 6, (.seq (.par2 4 5 (.call "least_costs" 0 (.cons (.var 0) .nil)) (.lst true .nil)) (.seq (.loop (.nm 1) (.seq (.var 4)) b_law_are_takings_right_1) (.seq (.set 2 (.call "many_run" 0 (.cons (.kI 0) (.cons (.blt .tuple false (.cons (.var 5) .nil)) .nil)))) (.seq (.set 3 (.lst true .nil)) (.seq (.loop (.nm 1) (.seq (.var 4)) b_law_are_takings_right_2) (.seq (.ret (.and (.call "_law_same" 0 (.cons (.var 2) (.cons (.blt .tuple false (.cons (.var 3) .nil)) .nil))) (.cmp .eq (.blt .sum false (.cons (.var 3) .nil)) (.bin .add (.blt .sum false (.cons (.var 4) .nil)) (.blt .len false (.cons (.var 0) .nil)))))) .skip))))))⟩
def b_law_is_queue_right_1 : S := (.seq (.exp (.mth .append (.var 2) (.cons (.var 7) .nil))) (.seq (.set 3 (.call "queue_put" 0 (.cons (.var 3) (.cons (.var 7) .nil)))) (.seq (.ife (.cmp .ge (.var 6) (.bin .sub (.var 1) (.kI 1))) (.seq (.unp [10, 3] (.call "queue_take" 0 (.cons (.var 3) .nil))) (.seq (.exp (.mth .append (.var 2) (.cons (.kN) .nil))) (.seq (.exp (.mth .append (.var 4) (.cons (.var 10) .nil))) .skip))) .skip) (.seq (.ife (.not (.call "_law_same" 0 (.cons (.call "queue_potential" 0 (.cons (.var 3) .nil)) (.cons (.blt .len false (.cons (.idx (.var 3) (.kI 1)) .nil)) .nil)))) (.seq (.ret (.kB false)) .skip) .skip) .skip))))
def c_law_is_queue_right : CZ.Code := ⟨2, 11, (.seq (.unp [2, 3, 4, 5] (.tup (.cons (.lst true .nil) (.cons (.tup (.cons (.tup .nil) (.cons (.tup .nil) .nil))) (.cons (.lst true .nil) (.cons (.kI 0) .nil)))))) (.seq (.loop (.tp [6, 7]) (.enm (.var 0)) b_law_is_queue_right_1) (.seq (.unp [8, 9] (.call "queue_run" 0 (.cons (.tup (.cons (.tup .nil) (.cons (.tup .nil) .nil))) (.cons (.blt .tuple false (.cons (.var 2) .nil)) .nil)))) (.seq (.ife (.or (.not (.call "_law_same" 0 (.cons (.tup (.cons (.var 8) (.cons (.blt .tuple false (.cons (.var 4) .nil)) .nil))) (.cons (.bin .mul (.tup (.cons (.blt .tuple false (.cons (.slc (.var 0) .kN (.blt .len false (.cons (.var 4) .nil))) .nil)) .nil)) (.kI 2)) .nil)))) (.cmp .ne (.blt .len false (.cons (.var 9) .nil)) (.blt .len false (.cons (.var 2) .nil)))) (.seq (.ret (.kB false)) .skip) .skip) (.seq (.ret (.cmp .eq (.bin .add (.blt .sum false (.cons (.var 9) .nil)) (.call "queue_potential" 0 (.cons (.var 3) .nil))) (.bin .add (.bin .mul (.kI 2) (.blt .len false (.cons (.var 0) .nil))) (.blt .len false (.cons (.var 4) .nil))))) .skip)))))⟩
def b_law_are_ends_right_1 : S := (.seq (.exp (.mth .append (.var 6) (.cons (.tup (.cons (.kS "takeback") (.cons (.kN) .nil))) .nil))) (.seq (.set 5 (.call "ends_after" 0 (.cons (.var 5) (.cons (.kS "takeback") (.cons (.kN) .nil))))) .skip))
def b_law_are_ends_right_2 : S := (.seq (.ife (.and (.cmp .ne (.var 7) (.lst false .nil)) (.cmp .le (.idx (.var 7) (.kI 0)) (.bin .sub (.var 9) (.var 1)))) (.seq (.set 7 (.slc (.var 7) (.kI 1) .kN)) (.seq (.exp (.mth .append (.var 6) (.cons (.tup (.cons (.kS "takefront") (.cons (.kN) .nil))) .nil))) (.seq (.set 5 (.call "ends_after" 0 (.cons (.var 5) (.cons (.kS "takefront") (.cons (.kN) .nil))))) .skip))) .skip) (.seq (.set 11 (.blt .len false (.cons (.comp false (.var 13) (.nm 13) (.seq (.var 7)) (.cmp .ge (.idx (.var 0) (.var 13)) (.var 10))) .nil))) (.seq (.set 7 (.bin .add (.slc (.var 7) .kN (.bin .sub (.blt .len false (.cons (.var 7) .nil)) (.var 11))) (.lst false (.cons (.var 9) .nil)))) (.seq (.loop (.nm 12) (.rng (.kI 0) (.var 11)) b_law_are_ends_right_1) (.seq (.exp (.mth .append (.var 6) (.cons (.tup (.cons (.kS "putback") (.cons (.var 10) .nil))) .nil))) (.seq (.set 5 (.callK "ends_after" 0 .nil (.cons (.var 10) (.cons (.kS "putback") (.cons (.var 5) .nil))) [2, 1, 0])) (.seq (.ife (.cmp .ne (.bin .add (.lrev false (.blt .list false (.cons (.idx (.var 5) (.kI 0)) .nil))) (.blt .list false (.cons (.idx (.var 5) (.kI 1)) .nil))) (.comp false (.idx (.var 0) (.var 13)) (.nm 13) (.seq (.var 7)) (.kB true))) (.seq (.ret (.kB false)) .skip) .skip) .skip)))))))
def c_law_are_ends_right : CZ.Code := ⟨2, 14, (.seq (.unp [5, 6, 7, 8] (.tup (.cons (.tup (.cons (.tup .nil) (.cons (.tup .nil) .nil))) (.cons (.lst true .nil) (.cons (.lst false .nil) (.cons (.tup (.cons (.tup .nil) (.cons (.tup .nil) .nil))) .nil)))))) (.seq (.loop (.tp [9, 10]) (.enm (.var 0)) b_law_are_ends_right_2) (.seq (.set 2 (.call "ends_run" 0 (.cons (.var 8) (.cons (.blt .tuple false (.cons (.var 6) .nil)) .nil)))) (.seq (.ife (.or (.cmp .ne (.blt .len false (.cons (.var 2) .nil)) (.call "window_cost" 0 (.cons (.var 0) (.cons (.var 1) .nil)))) (.not (.call "_law_same" 0 (.cons (.callK "ends_run" 0 .nil (.cons (.blt .tuple false (.cons (.var 6) .nil)) (.cons (.var 8) .nil)) [1, 0]) (.cons (.var 2) .nil))))) (.seq (.ret (.kB false)) .skip) .skip) (.seq (.set 3 (.blt .abs false (.cons (.bin .sub (.blt .len false (.cons (.idx (.var 5) (.kI 0)) .nil)) (.blt .len false (.cons (.idx (.var 5) (.kI 1)) .nil))) .nil))) (.seq (.set 4 (.ifx (.cmp .eq (.bin .band (.var 3) (.kI 1)) (.kI 0)) (.tup (.cons (.bin .fdv (.var 3) (.kI 2)) (.cons (.kI 1) .nil))) (.tup (.cons (.var 3) (.cons (.kI 2) .nil))))) (.seq (.ret (.and (.call "_law_same" 0 (.cons (.call "ends_potential" 0 (.cons (.var 5) .nil)) (.cons (.var 4) .nil))) (.cmp .le (.bin .add (.bin .mul (.kI 2) (.blt .sum false (.cons (.var 2) .nil))) (.var 3)) (.bin .mul (.kI 3) (.blt .len false (.cons (.var 2) .nil)))))) .skip)))))))⟩
def b_law_1 : S := (.seq (.set 4 (.blt .min2 false (.cons (.var 4) (.cons (.var 6) .nil)))) (.seq (.ife (.or (.not (.call "_law_is_stack_right" 0 (.cons (.var 3) (.cons (.var 4) .nil)))) (.not (.call "_law_is_queue_right" 0 (.cons (.var 3) (.cons (.var 4) .nil))))) (.seq (.ret (.kB false)) .skip) .skip) (.seq (.ife (.not (.call "_law_are_ends_right" 0 (.cons (.var 3) (.cons (.var 4) .nil)))) (.seq (.ret (.kB false)) .skip) .skip) .skip)))
def b_law_2 : S := (.seq (.set 3 (.call "_law_row" 2 (.cons (.var 1) .nil))) (.seq (.par2 5 6 (.rpr (.var 3)) (.blt .len false (.cons (.var 3) .nil))) (.seq (.loop (.nm 4) (.seq (.lst false (.cons (.call "_law_pick" 2 (.cons (.var 1) (.cons (.lst false (.cons (.kI 1) (.cons (.kI 2) (.cons (.var 6) (.cons (.bin .add (.kI 1) (.call "_law_draw" 2 (.cons (.var 1) (.cons (.var 6) .nil)))) .nil))))) .nil))) (.cons (.bin .add (.kI 1) (.call "_law_draw" 2 (.cons (.var 1) (.cons (.var 6) .nil)))) .nil)))) b_law_1) (.seq (.ife (.or (.not (.call "_law_are_takings_right" 0 (.cons (.var 3) .nil))) (.cmp .ne (.rpr (.var 3)) (.var 5))) (.seq (.ret (.kB false)) .skip) .skip) .skip))))
def c_law : CZ.Code := ⟨1, 7, (.seq (.set 1 (.call "_law_own_bag" 0 (.cons (.var 0) .nil))) (.seq (.loop (.nm 2) (.rng (.kI 0) (.kI 3)) b_law_2) (.seq (.ret (.call "_law_same" 0 (.cons (.tup (.cons (.call "window_least" 0 (.cons (.tup (.cons (.kI 3) (.cons (.kI 1) (.cons (.kI 4) (.cons (.kI 1) (.cons (.kI 5) (.cons (.kI 9) (.cons (.kI 2) (.cons (.kI 6) .nil))))))))) (.cons (.kI 3) .nil))) (.cons (.call "window_cost" 0 (.cons (.tup (.cons (.kI 3) (.cons (.kI 1) (.cons (.kI 4) (.cons (.kI 1) (.cons (.kI 5) (.cons (.kI 9) (.cons (.kI 2) (.cons (.kI 6) .nil))))))))) (.cons (.kI 3) .nil))) .nil))) (.cons (.tup (.cons (.tup (.cons (.kI 1) (.cons (.kI 1) (.cons (.kI 1) (.cons (.kI 1) (.cons (.kI 2) (.cons (.kI 2) .nil))))))) (.cons (.kI 14) .nil))) .nil)))) .skip)))⟩
def T : List Ent := [
  en "after_place" 1 ["row", "stack", "place", "left"] ["row", "stack", "place"] c_after_place,
  en "stacks_of" 2 ["row", "place", "stack", "found"] ["row"] c_stacks_of,
  en "least_stack" 3 ["row"] ["row"] c_least_stack,
  en "least_ahead" 4 ["row", "stack"] ["row"] c_least_ahead,
  en "least_costs" 5 ["row", "sizes", "stack", "ahead", "behind"] ["row"] c_least_costs,
  en "window_stacks" 6 ["row", "w", "place", "stack", "found"] ["row", "w"] c_window_stacks,
  en "window_least" 7 ["row", "w", "stack"] ["row", "w"] c_window_least,
  en "window_cost" 8 ["row", "w"] ["row", "w"] c_window_cost,
  en "lowest" 13 ["num", "den", "one", "other"] ["num", "den"] c_lowest,
  en "queue_put" 15 ["queue", "thing"] ["queue", "thing"] c_queue_put,
  en "turned_over" 16 ["queue", "front", "back"] ["queue"] c_turned_over,
  en "queue_take" 17 ["queue", "front", "back"] ["queue"] c_queue_take,
  en "queue_cost" 18 ["queue", "deed"] ["queue", "deed"] c_queue_cost,
  en "queue_potential" 19 ["queue"] ["queue"] c_queue_potential,
  en "queue_run" 20 ["queue", "deeds", "deed", "taken", "costs", "thing"] ["queue", "deeds"] c_queue_run,
  en "front_filled" 22 ["ends", "half", "front", "back"] ["ends"] c_front_filled,
  en "front_taken" 23 ["ends", "filled", "half"] ["ends"] c_front_taken,
  en "ends_step" 24 ["ends", "deed", "thing", "front", "back", "found", "cost"] ["ends", "deed", "thing"] c_ends_step,
  en "ends_after" 25 ["ends", "deed", "thing"] ["ends", "deed", "thing"] c_ends_after,
  en "ends_potential" 26 ["ends"] ["ends"] c_ends_potential,
  en "ends_run" 27 ["ends", "deeds", "here", "found", "deed", "thing", "cost"] ["ends", "deeds"] c_ends_run,
  en "many_after" 29 ["size", "deed"] ["size", "deed"] c_many_after,
  en "many_cost" 30 ["size", "deed"] ["size", "deed"] c_many_cost,
  en "many_run" 31 ["size", "deeds", "deed", "here", "found"] ["size", "deeds"] c_many_run,
  en "_law_own_bag" 33 ["script", "cells", "mixed", "cell"] ["script"] c_law_own_bag,
  en "_law_draw" 34 ["bag", "below", "turn", "cell", "found"] ["bag", "below"] c_law_draw,
  en "_law_pick" 35 ["bag", "some"] ["bag", "some"] c_law_pick,
  en "_law_same" 36 ["told", "due", "a", "b"] ["told", "due"] c_law_same,
  en "_law_row" 37 ["bag", "few", "row", "many", "way", "turn"] ["bag"] c_law_row,
  en "_law_stack" 38 ["row", "w", "stack", "ahead", "costs", "both", "least", "place", "number", "many", "one"] ["row", "w"] c_law_stack,
  en "_law_nearest" 39 ["row", "found", "place", "some", "one"] ["row"] c_law_nearest,
  en "_law_is_stack_right" 40 ["row", "w", "n", "told", "due", "stack", "ahead", "costs", "both", "least", "kept", "first", "some", "i"] ["row", "w"] c_law_is_stack_right,
  en "_law_are_takings_right" 41 ["row", "cost", "told", "due", "costs", "deeds"] ["row"] c_law_are_takings_right,
  en "_law_is_queue_right" 42 ["row", "w", "deeds", "queue", "taken", "potential", "place", "number", "told", "costs", "first"] ["row", "w"] c_law_is_queue_right,
  en "_law_are_ends_right" 43 ["row", "w", "costs", "gap", "due", "ends", "deeds", "held", "start", "place", "number", "many", "turn", "one"] ["row", "w"] c_law_are_ends_right,
  en "law" 44 ["script", "bag", "turn", "row", "w", "kept", "n"] ["script"] c_law]
def G : Gam where
  N := []
  fns := fnsOf T
  kws := [("ends_after", 0, ["thing", "deed", "ends"], [2, 1, 0]), ("ends_run", 0, ["deeds", "ends"], [1, 0]), ("least_ahead", 0, ["row"], [0]), ("least_costs", 0, ["row"], [0]), ("least_stack", 0, ["row"], [0]), ("window_cost", 0, ["w", "row"], [1, 0]), ("window_least", 0, ["w", "row"], [1, 0])]
  blt := ["ValueError", "abs", "all", "bool", "enumerate", "int", "isinstance", "len", "list", "max", "min", "range", "repr", "reversed", "sorted", "str", "sum", "super", "tuple", "zip"]
  conI := []
  conS := []

theorem hl : ∃ e ∈ T, e.name = ("law" : Str) ∧ e.ps = [("script" : Str)] := ⟨_, List.mem_of_getElem? (i := 35) rfl, by decide +kernel, by decide +kernel⟩
theorem hc : ∀ e ∈ T, chkD G e = true := List.all_eq_true.mp (by decide +kernel : (T.all (chkD G)) = true)
theorem hw : ∀ q ∈ G.kws, chkW T q = true := List.all_eq_true.mp (by decide +kernel : (G.kws.all (chkW T)) = true)
theorem hNd : (T.map fun e => e.name).Nodup := by decide +kernel
theorem hnd : ∀ e ∈ T, (prgOf T).lookup e.name = some e.code := lookup_prg hNd
abbrev fn : List He.DefD := fnL T
abbrev fa : List He.Fa := faL T G
def loose : List Str := (["after_place", "stacks_of", "least_stack", "least_ahead", "least_costs", "window_stacks", "window_least", "window_cost", "CostError", "Unfit", "lowest", "queue_put", "turned_over", "queue_take", "queue_cost", "queue_potential", "queue_run", "front_filled", "front_taken", "ends_step", "ends_after", "ends_potential", "ends_run", "many_after", "many_cost", "many_run", "_law_own_bag", "_law_draw", "_law_pick", "_law_same"] : List Str) ++ (["_law_row", "_law_stack", "_law_nearest", "_law_is_stack_right", "_law_are_takings_right", "_law_is_queue_right", "_law_are_ends_right"] : List Str)
noncomputable abbrev Ph (n : Nat) : Orac := CZ.run (prgOf T) n
theorem lk_after_place : (prgOf T).lookup ("after_place" : Str) = some c_after_place := hnd _ (List.mem_of_getElem? (i := 0) rfl)
theorem lk_stacks_of : (prgOf T).lookup ("stacks_of" : Str) = some c_stacks_of := hnd _ (List.mem_of_getElem? (i := 1) rfl)
theorem lk_least_stack : (prgOf T).lookup ("least_stack" : Str) = some c_least_stack := hnd _ (List.mem_of_getElem? (i := 2) rfl)
theorem lk_least_ahead : (prgOf T).lookup ("least_ahead" : Str) = some c_least_ahead := hnd _ (List.mem_of_getElem? (i := 3) rfl)
theorem lk_least_costs : (prgOf T).lookup ("least_costs" : Str) = some c_least_costs := hnd _ (List.mem_of_getElem? (i := 4) rfl)
theorem lk_window_stacks : (prgOf T).lookup ("window_stacks" : Str) = some c_window_stacks := hnd _ (List.mem_of_getElem? (i := 5) rfl)
theorem lk_window_least : (prgOf T).lookup ("window_least" : Str) = some c_window_least := hnd _ (List.mem_of_getElem? (i := 6) rfl)
theorem lk_window_cost : (prgOf T).lookup ("window_cost" : Str) = some c_window_cost := hnd _ (List.mem_of_getElem? (i := 7) rfl)
theorem lk_lowest : (prgOf T).lookup ("lowest" : Str) = some c_lowest := hnd _ (List.mem_of_getElem? (i := 8) rfl)
theorem lk_queue_put : (prgOf T).lookup ("queue_put" : Str) = some c_queue_put := hnd _ (List.mem_of_getElem? (i := 9) rfl)
theorem lk_turned_over : (prgOf T).lookup ("turned_over" : Str) = some c_turned_over := hnd _ (List.mem_of_getElem? (i := 10) rfl)
theorem lk_queue_take : (prgOf T).lookup ("queue_take" : Str) = some c_queue_take := hnd _ (List.mem_of_getElem? (i := 11) rfl)
theorem lk_queue_cost : (prgOf T).lookup ("queue_cost" : Str) = some c_queue_cost := hnd _ (List.mem_of_getElem? (i := 12) rfl)
theorem lk_queue_potential : (prgOf T).lookup ("queue_potential" : Str) = some c_queue_potential := hnd _ (List.mem_of_getElem? (i := 13) rfl)
theorem lk_queue_run : (prgOf T).lookup ("queue_run" : Str) = some c_queue_run := hnd _ (List.mem_of_getElem? (i := 14) rfl)
theorem lk_front_filled : (prgOf T).lookup ("front_filled" : Str) = some c_front_filled := hnd _ (List.mem_of_getElem? (i := 15) rfl)
theorem lk_front_taken : (prgOf T).lookup ("front_taken" : Str) = some c_front_taken := hnd _ (List.mem_of_getElem? (i := 16) rfl)
theorem lk_ends_step : (prgOf T).lookup ("ends_step" : Str) = some c_ends_step := hnd _ (List.mem_of_getElem? (i := 17) rfl)
theorem lk_ends_after : (prgOf T).lookup ("ends_after" : Str) = some c_ends_after := hnd _ (List.mem_of_getElem? (i := 18) rfl)
theorem lk_ends_potential : (prgOf T).lookup ("ends_potential" : Str) = some c_ends_potential := hnd _ (List.mem_of_getElem? (i := 19) rfl)
theorem lk_ends_run : (prgOf T).lookup ("ends_run" : Str) = some c_ends_run := hnd _ (List.mem_of_getElem? (i := 20) rfl)
theorem lk_many_after : (prgOf T).lookup ("many_after" : Str) = some c_many_after := hnd _ (List.mem_of_getElem? (i := 21) rfl)
theorem lk_many_cost : (prgOf T).lookup ("many_cost" : Str) = some c_many_cost := hnd _ (List.mem_of_getElem? (i := 22) rfl)
theorem lk_many_run : (prgOf T).lookup ("many_run" : Str) = some c_many_run := hnd _ (List.mem_of_getElem? (i := 23) rfl)
theorem lk_law_own_bag : (prgOf T).lookup ("_law_own_bag" : Str) = some c_law_own_bag := hnd _ (List.mem_of_getElem? (i := 24) rfl)
theorem lk_law_draw : (prgOf T).lookup ("_law_draw" : Str) = some c_law_draw := hnd _ (List.mem_of_getElem? (i := 25) rfl)
theorem lk_law_pick : (prgOf T).lookup ("_law_pick" : Str) = some c_law_pick := hnd _ (List.mem_of_getElem? (i := 26) rfl)
theorem lk_law_same : (prgOf T).lookup ("_law_same" : Str) = some c_law_same := hnd _ (List.mem_of_getElem? (i := 27) rfl)
theorem lk_law_row : (prgOf T).lookup ("_law_row" : Str) = some c_law_row := hnd _ (List.mem_of_getElem? (i := 28) rfl)
theorem lk_law_stack : (prgOf T).lookup ("_law_stack" : Str) = some c_law_stack := hnd _ (List.mem_of_getElem? (i := 29) rfl)
theorem lk_law_nearest : (prgOf T).lookup ("_law_nearest" : Str) = some c_law_nearest := hnd _ (List.mem_of_getElem? (i := 30) rfl)
theorem lk_law_is_stack_right : (prgOf T).lookup ("_law_is_stack_right" : Str) = some c_law_is_stack_right := hnd _ (List.mem_of_getElem? (i := 31) rfl)
theorem lk_law_are_takings_right : (prgOf T).lookup ("_law_are_takings_right" : Str) = some c_law_are_takings_right := hnd _ (List.mem_of_getElem? (i := 32) rfl)
theorem lk_law_is_queue_right : (prgOf T).lookup ("_law_is_queue_right" : Str) = some c_law_is_queue_right := hnd _ (List.mem_of_getElem? (i := 33) rfl)
theorem lk_law_are_ends_right : (prgOf T).lookup ("_law_are_ends_right" : Str) = some c_law_are_ends_right := hnd _ (List.mem_of_getElem? (i := 34) rfl)
theorem lk_law : (prgOf T).lookup ("law" : Str) = some c_law := hnd _ (List.mem_of_getElem? (i := 35) rfl)
abbrev R : PySem.W.OpenRow := PySem.W.OpenLaw.row PySem.Challenge.rw_costsahead_k73_whole_windows_beside_queu
abbrev hk : PySem.W.Hook := He.hookD 4 fa fn
def ob (s : PySem.W.SharedT) : He.AlD := He.obsDG 4 fa fn (HandSHeadRun.getT s)
theorem ob_eq (s : PySem.W.SharedT) : ob s = hk.obs s.abs := He.obsDG_eq (HandSHeadRun.getT_eq s)
theorem hrun (w : World) : HandSHeadRun.RunEq R (PySem.W.view R.prog [44]) hk ob 2000 loose w := by
  intro os
  kernel_rfl
end Lk73

set_option Elab.async false
set_option linter.all false
set_option maxRecDepth 100000
set_option maxHeartbeats 8000000
namespace Lk73
open PySem CZ
/-! the stack of least items, top first -/
def fv (xs : List Int) (i : Int) : Int := xs.getD i.toNat 0
def pop (f : Int → Int) (x : Int) : List Int → List Int
  | [] => []
  | i :: r => if x ≤ f i then pop f x r else i :: r
def cnt (f : Int → Int) (x : Int) (r : List Int) : Nat := (r.filter fun i => decide (x ≤ f i)).length
def exq (w p : Int) (r : List Int) : List Int := match r.getLast? with
  | some b => if b ≤ p - w then r.dropLast else r
  | none => r
def nxt (f : Int → Int) (w p : Int) (r : List Int) : List Int := p :: pop f (f p) (exq w p r)
def st (f : Int → Int) (w : Int) : Nat → List Int
  | 0 => []
  | k + 1 => nxt f w k (st f w k)
abbrev Dn (f : Int → Int) (r : List Int) : Prop := r.Pairwise fun a b => b < a ∧ f b < f a
theorem pop_mem {f : Int → Int} {x : Int} : ∀ {r : List Int} {i : Int}, i ∈ pop f x r → i ∈ r
  | [], i, h => h
  | a :: r, i, h => by
    unfold pop at h
    split at h
    · exact List.mem_cons_of_mem _ (pop_mem h)
    · exact h
theorem mem_pop {f : Int → Int} {x : Int} : ∀ {r : List Int} {i : Int}, i ∈ r → i ∈ pop f x r ∨ x ≤ f i
  | a :: r, i, h => by
    unfold pop
    split
    · rcases List.mem_cons.mp h with rfl | h
      · exact .inr (by assumption)
      · exact mem_pop h
    · exact .inl h
theorem pop_dn {f : Int → Int} {x : Int} : ∀ {r : List Int}, Dn f r → Dn f (pop f x r) ∧ ∀ i ∈ pop f x r, f i < x
  | [], h => ⟨h, fun i hi => nomatch hi⟩
  | a :: r, h => by
    obtain ⟨h1, h2⟩ := List.pairwise_cons.mp h
    unfold pop
    split
    · exact pop_dn h2
    · refine ⟨h, fun i hi => ?_⟩
      rcases List.mem_cons.mp hi with rfl | hi
      · omega
      · have := (h1 i hi).2
        omega
theorem pop_drop {f : Int → Int} {x : Int} : ∀ {r : List Int}, Dn f r → pop f x r = r.drop (cnt f x r) ∧ cnt f x r ≤ r.length
  | [], h => ⟨rfl, Nat.le_refl _⟩
  | a :: r, h => by
    obtain ⟨h1, h2⟩ := List.pairwise_cons.mp h
    unfold pop cnt
    by_cases hx : x ≤ f a
    · obtain ⟨q1, q2⟩ := pop_drop (x := x) h2
      rw [if_pos hx, List.filter_cons_of_pos (by simpa using hx), List.length_cons, List.drop_succ_cons]
      exact ⟨q1, by unfold cnt at q2; simp only [List.length_cons]; omega⟩
    · have e : (r.filter fun i => decide (x ≤ f i)) = [] := List.filter_eq_nil_iff.mpr fun i hi => by
        have := (h1 i hi).2
        simp
        omega
      rw [if_neg hx, List.filter_cons_of_neg (by simpa using hx), e]
      exact ⟨rfl, Nat.zero_le _⟩
theorem exq_filter {f : Int → Int} {w p : Int} {r : List Int} (h : Dn f r) (hr : ∀ i ∈ r, p - w ≤ i) : exq w p r = r.filter fun i => decide (p - w < i) := by
  rcases List.eq_nil_or_concat r with rfl | ⟨l, b, rfl⟩
  · rfl
  · rw [List.concat_eq_append] at *
    have hb := hr b (by simp)
    have hl : ∀ a ∈ l, b < a := fun a ha => ((List.pairwise_append.mp h).2.2 a ha b (by simp)).1
    unfold exq
    rw [List.getLast?_concat, List.filter_append]
    show (if b ≤ p - w then _ else _) = _
    have el : (l.filter fun i => decide (p - w < i)) = l := List.filter_eq_self.mpr fun a ha => by
      have := hl a ha
      simp
      omega
    rw [el]
    by_cases q : b ≤ p - w
    · rw [if_pos q, List.dropLast_concat]
      have : ¬ p - w < b := by omega
      simp [this]
    · rw [if_neg q]
      have : p - w < b := by omega
      simp [this]
structure Inv (f : Int → Int) (w : Int) (k : Nat) (r : List Int) : Prop where
  dn : Dn f r
  rng : ∀ i ∈ r, 0 ≤ i ∧ (k : Int) - w ≤ i ∧ i < (k : Int)
  cov : ∀ j : Int, 0 ≤ j → (k : Int) - w ≤ j → j < (k : Int) → ∃ i ∈ r, j ≤ i ∧ f i ≤ f j
theorem inv_nxt {f : Int → Int} {w : Int} (hw : 1 ≤ w) {k : Nat} {r : List Int} (h : Inv f w k r) : Inv f w (k + 1) (nxt f w k r) := by
  have e := exq_filter (p := k) (w := w) h.dn (fun i hi => (h.rng i hi).2.1)
  unfold nxt
  rw [e]
  have hd : Dn f (r.filter fun i => decide ((k : Int) - w < i)) := List.Pairwise.filter _ h.dn
  obtain ⟨p1, p2⟩ := pop_dn (x := f k) hd
  have hm : ∀ i ∈ pop f (f k) (r.filter fun i => decide ((k : Int) - w < i)), i ∈ r ∧ (k : Int) - w < i := fun i hi => by
    have := pop_mem hi
    simp at this
    exact this
  refine ⟨List.pairwise_cons.mpr ⟨fun i hi => ⟨(h.rng i (hm i hi).1).2.2, p2 i hi⟩, p1⟩, fun i hi => ?_, fun j h0 h1 h2 => ?_⟩
  · rcases List.mem_cons.mp hi with rfl | hi
    · push_cast
      omega
    · have a := hm i hi
      have b := h.rng i a.1
      push_cast
      omega
  · push_cast at h1 h2
    rcases Int.lt_or_le j k with q | q
    · obtain ⟨i, hi, h3, h4⟩ := h.cov j h0 (by omega) q
      have hi' : i ∈ r.filter fun i => decide ((k : Int) - w < i) := by
        simp
        exact ⟨hi, by omega⟩
      rcases mem_pop (x := f k) hi' with z | z
      · exact ⟨i, List.mem_cons_of_mem _ z, h3, h4⟩
      · exact ⟨k, List.mem_cons_self .., by omega, by omega⟩
    · exact ⟨k, List.mem_cons_self .., by omega, by rw [show j = (k : Int) by omega]; exact Int.le_refl _⟩
theorem inv_st {f : Int → Int} {w : Int} (hw : 1 ≤ w) : ∀ k, Inv f w k (st f w k)
  | 0 => ⟨List.Pairwise.nil, fun i hi => (by cases hi), fun j h0 _ h2 => absurd h2 (by show ¬ j < ((0 : Nat) : Int); omega)⟩
  | k + 1 => inv_nxt hw (inv_st hw k)
/-- what one step costs -/
def expd (w : Int) (p : Int) (r : List Int) : Nat := r.length - (exq w p r).length
theorem exq_len (w p : Int) (r : List Int) : (exq w p r).length ≤ r.length := by
  unfold exq
  split
  · split
    · simp
    · exact Nat.le_refl _
  · exact Nat.le_refl _
theorem exq_dn {f : Int → Int} {w p : Int} {r : List Int} (h : Dn f r) : Dn f (exq w p r) := by
  unfold exq
  split
  · split
    · exact List.Pairwise.sublist (List.dropLast_sublist r) h
    · exact h
  · exact h
theorem nxt_len {f : Int → Int} {w p : Int} {r : List Int} (h : Dn f r) : (nxt f w p r).length + cnt f (f p) (exq w p r) = (exq w p r).length + 1 := by
  obtain ⟨a, b⟩ := pop_drop (x := f p) (exq_dn (w := w) (p := p) h)
  unfold nxt
  rw [List.length_cons, a, List.length_drop]
  omega
theorem exq_all {w p : Int} {r : List Int} (h : ∀ i ∈ r, p - w < i) : exq w p r = r := by
  unfold exq
  split
  · rename_i b hb
    have := h b (List.mem_of_getLast? hb)
    rw [if_neg (by omega)]
  · rfl
/-- the nearest lesser item ahead -/
def iota (k : Nat) : List Int := (List.range k).map fun (i : Nat) => (i : Int)
theorem last_filter {P : Int → Bool} {k t : Nat} (ht : t < k) (hp : P t = true) (hn : ∀ j : Nat, t < j → j < k → P j = false) : ((iota k).filter P).getLast? = some (t : Int) := by
  induction k with
  | zero => omega
  | succ k ih =>
    have e : iota (k + 1) = iota k ++ [(k : Int)] := by simp [iota, List.range_succ]
    rw [e, List.filter_append]
    by_cases q : t = k
    · subst q
      simp [hp]
    · have hk := hn k (by omega) (by omega)
      simp only [List.filter_cons, List.filter_nil, hk, Bool.false_eq_true, if_false, List.append_nil]
      exact ih (by omega) fun j h1 h2 => hn j h1 (by omega)
theorem near_eq {f : Int → Int} {w : Int} {k : Nat} {r : List Int} (h : Inv f w k r) (hw : (k : Int) ≤ w) : ((iota k).filter fun j => decide (f j < f k)).getLast? = (pop f (f k) r).head? := by
  obtain ⟨p1, p2⟩ := pop_dn (x := f k) h.dn
  cases hp : pop f (f k) r with
  | nil =>
    have : ((iota k).filter fun j => decide (f j < f k)) = [] := List.filter_eq_nil_iff.mpr fun j hj => by
      obtain ⟨i, hi, rfl⟩ := List.mem_map.mp hj
      have := List.mem_range.mp hi
      obtain ⟨q, hq, h3, h4⟩ := h.cov i (by omega) (by omega) (by omega)
      rcases mem_pop (x := f k) hq with z | z
      · rw [hp] at z
        cases z
      · simp
        omega
    rw [this] <;> rfl
  | cons t s =>
    have ht : t ∈ pop f (f k) r := by rw [hp]; exact List.mem_cons_self ..
    have b := h.rng t (pop_mem ht)
    have et : ((t.toNat : Nat) : Int) = t := by omega
    have := last_filter (P := fun j => decide (f j < f k)) (k := k) (t := t.toNat) (by omega) (by rw [et]; exact decide_eq_true (p2 t ht)) fun j h1 h2 => by
      obtain ⟨q, hq, h3, h4⟩ := h.cov j (by omega) (by omega) (by omega)
      rcases mem_pop (x := f k) hq with z | z
      · rw [hp] at z p1
        rcases List.mem_cons.mp z with rfl | z
        · omega
        · have := ((List.pairwise_cons.mp p1).1 q z).1
          omega
      · simp
        omega
    rw [this, et] <;> rfl
/-- the bottom is least -/
theorem bot_min {f : Int → Int} {w : Int} (hw : 1 ≤ w) {k : Nat} (hk : w ≤ (k : Int)) {r : List Int} (h : Inv f w k r) : ∃ b, r.getLast? = some b ∧ (k : Int) - w ≤ b ∧ b < k ∧ ∀ j : Int, (k : Int) - w ≤ j → j < k → f b ≤ f j := by
  rcases List.eq_nil_or_concat r with rfl | ⟨l, b, rfl⟩
  · obtain ⟨i, hi, _⟩ := h.cov (k - 1) (by omega) (by omega) (by omega)
    cases hi
  · rw [List.concat_eq_append] at *
    have hb := h.rng b (by simp)
    refine ⟨b, by simp, hb.2.1, hb.2.2, fun j h1 h2 => ?_⟩
    obtain ⟨i, hi, h3, h4⟩ := h.cov j (by omega) h1 h2
    rcases List.mem_append.mp hi with hi | hi
    · have := ((List.pairwise_append.mp h.dn).2.2 i hi b (by simp)).2
      omega
    · rw [List.mem_singleton.mp hi] at h4
      exact h4
theorem foldl_min {m : Int} : ∀ {l : List Int} {a : Int}, (∀ x ∈ a :: l, m ≤ x) → m ∈ a :: l → l.foldl min a = m
  | [], a, _, h => by
    have : m = a := by simpa using h
    exact this.symm
  | b :: l, a, h, h2 => by
    have ha := h a (by simp)
    have hb := h b (by simp)
    refine foldl_min (l := l) (a := min a b) (fun x hx => ?_) ?_
    · rcases List.mem_cons.mp hx with rfl | hx
      · omega
      · exact h x (by simp [hx])
    · simp at h2 ⊢
      rcases h2 with rfl | rfl | h2
      · exact .inl (by omega)
      · exact .inl (by omega)
      · exact .inr h2
end Lk73

set_option Elab.async false
set_option linter.all false
set_option maxRecDepth 100000
set_option maxHeartbeats 8000000
namespace Lk73
open PySem CZ
theorem lg_nat {i : Int} {k : Nat} (h : i.natAbs < 2 ^ k) : i.natAbs.log2 ≤ k := by
  by_cases h0 : i.natAbs = 0
  · rw [h0]; exact Nat.zero_le _
  · exact Nat.le_of_lt ((Nat.log2_lt h0).mpr h)
theorem bop_mulL {i j : Int} (hi : i.natAbs ≤ 1000000000000000000000000000000000000000000000) (hj : j.natAbs ≤ 1000000000000000000000000000000000000000000000) : bop .mul (.int i) (.int j) = some (.int (i * j)) := by
  have h : 1000000000000000000000000000000000000000000000 < 2 ^ 150 := by decide +kernel
  have := lg_nat (Nat.lt_of_le_of_lt hi h)
  have := lg_nat (Nat.lt_of_le_of_lt hj h)
  exact bop_mul (by omega)
abbrev tI (xs : List Int) : D := .tup (xs.map .int)
theorem tI_cl (k : Nat) (xs : List Int) : (tI xs).cl k = true := cls_ints k xs
theorem tI_pl (xs : List Int) (h : xs.length ≤ 1000000) : (tI xs).pl 2 = true := by
  show (decide (0 < 2) && decide ((xs.map D.int).length ≤ 1000000) && D.pls (xs.map D.int) (2 - 1)) = true
  have e : D.pls (xs.map D.int) 1 = true := pls_of fun x hx => by
    obtain ⟨i, _, rfl⟩ := List.mem_map.mp hx
    rfl
  simp [e, h]
theorem atI_int (xs : List Int) {t : Int} (h0 : 0 ≤ t) (h : t.toNat < xs.length) : L2.atI (xs.map D.int) t = some (.int xs[t.toNat]) := by
  have e : ((t.toNat : Nat) : Int) = t := by omega
  have := atI_nat (xs.map D.int) t.toNat (by simpa using h)
  rw [e] at this
  rw [this, List.getElem?_map, List.getElem?_eq_getElem h] <;> rfl
theorem bop_rep {x : D} {t : Int} (h : 0 ≤ t ∧ t ≤ 1000) : bop .mul (.tup [x]) (.int t) = some (.tup (List.replicate t.toNat x)) := by
  show (if -1000000 ≤ t ∧ t ≤ 1000 ∧ [x].length ≤ 1000 ∧ [x] ≠ [] then some (D.tup (List.replicate t.toNat [x]).flatten) else none) = _
  rw [if_pos ⟨by omega, by omega, by simp, by simp⟩]
  congr 2
  induction t.toNat with
  | zero => rfl
  | succ k ih => rw [List.replicate_succ, List.flatten_cons, ih, List.replicate_succ] <;> rfl
theorem bop_cat {xs ys : List D} (h : xs.length + ys.length ≤ 1000000) : bop .add (.tup xs) (.tup ys) = some (.tup (xs ++ ys)) := if_pos (by rw [PySem.sizeLine_eq]; omega)
theorem cut_from (xs : List D) {t : Int} (h0 : 0 ≤ t) (h : t.toNat ≤ xs.length) : cut xs (some t) none = xs.drop t.toNat := by
  have e : ((t.toNat : Nat) : Int) = t := by omega
  have q := HT.sIx_nat xs.length 0 t.toNat
  rw [e] at q
  have q2 : HT.sIx xs.length 0 (some t) = t.toNat := by rw [q]; omega
  have q3 : HT.sIx xs.length xs.length none = xs.length := rfl
  unfold cut
  rw [q2, q3]
  exact List.take_of_length_le (by simp)
theorem cut_to (xs : List D) {t : Int} (h0 : 0 ≤ t) : cut xs none (some t) = xs.take t.toNat := by
  have e : ((t.toNat : Nat) : Int) = t := by omega
  have q := HT.sIx_nat xs.length xs.length t.toNat
  rw [e] at q
  have q3 : HT.sIx xs.length 0 none = 0 := rfl
  unfold cut
  rw [q, q3, List.drop_zero, Nat.sub_zero]
  rcases Nat.le_total t.toNat xs.length with h | h
  · rw [Nat.min_eq_left h]
  · rw [Nat.min_eq_right h, List.take_of_length_le (Nat.le_refl _), List.take_of_length_le h]
def low (a b : Int) : Int × Int := (a / (Int.gcd a b : Int), b / (Int.gcd a b : Int))
theorem gcd_step (x y : Int) : Int.gcd y (x % y) = Int.gcd x y := by
  rw [← Int.gcd_add_mul_left_right y (x % y) (x / y), Int.emod_add_mul_ediv, Int.gcd_comm]
def LoI (a b : Int) (n : Nat) (ρ : Env') (M : Store) : Prop := ∃ x y : Int, ρ = [some (.int a), some (.int b), some (.int x), some (.int y)] ∧ 0 ≤ x ∧ 0 ≤ y ∧ Int.gcd x y = Int.gcd a b ∧ n = y.toNat
theorem a_lowest (n : Nat) (a b : Int) (hb : 0 < b ∧ b < 4611686018427387904) : Ans (Ph (n + 1)) "lowest" [.int a, .int b] (.tup [.int (low a b).1, .int (low a b).2]) := by
  refine ans_run lk_lowest rfl ?_
  simp [c_lowest]
  refine WP_bind (WP.mono (Q := fun f M => f = .nx [some (.int a), some (.int b), some (.int (Int.gcd a b : Int)), some (.int 0)]) (WP_while (LoI a b) (fun k ρ M hI => ?_) (n := b.toNat) ⟨_, b, rfl, by split <;> omega, by omega, ?_, rfl⟩) (fun f M hf => ?_))
  · obtain ⟨x, y, rfl, h1, h2, h5, rfl⟩ := hI
    by_cases hy : y = 0
    · subst hy
      simp
      rw [← h5, Int.gcd_zero_right]
      omega
    · have hy' : 0 < y := by omega
      have r := mod_range (i := x) hy'
      simp [hy, b_lowest_1, bop_mod hy']
      exact ⟨(x % y).toNat, by omega, y, x % y, rfl, h2, r.1, by rw [gcd_step, h5], rfl⟩
  · split
    · rw [Int.neg_gcd]
    · rfl
  · subst hf
    have hg : 0 < (Int.gcd a b : Int) := by
      have := Int.gcd_pos_of_ne_zero_right a (b := b) (by omega)
      omega
    have hg2 : (Int.gcd a b : Int) ≤ b := Int.le_of_dvd hb.1 (Int.gcd_dvd_right a b)
    simp [bop_fdvS hg (by omega), low]
theorem low_ok {a b : Int} (hb : 0 < b) : ∃ g : Int, 0 < g ∧ a = g * (low a b).1 ∧ b = g * (low a b).2 := by
  refine ⟨(Int.gcd a b : Int), ?_, ?_, ?_⟩
  · have := Int.gcd_pos_of_ne_zero_right a (b := b) (by omega)
    omega
  · exact (Int.mul_ediv_cancel' (Int.gcd_dvd_left a b)).symm
  · exact (Int.mul_ediv_cancel' (Int.gcd_dvd_right a b)).symm
theorem cls1 {d : D} (h : d.cl 0 = true) : D.cls 0 [d] = true := by
  show (d.cl 0 && true) = true
  rw [h] <;> rfl
theorem cls2 {d e : D} (h : d.cl 0 = true) (h2 : e.cl 0 = true) : D.cls 0 [d, e] = true := by
  show (d.cl 0 && (e.cl 0 && true)) = true
  rw [h, h2] <;> rfl
theorem eq_tup_nil (ns : List Int) : cop .ne (.tup (ns.map .int)) (.tup []) = some (!ns.isEmpty) := by
  have h : eqD (.tup (ns.map .int)) (.tup []) = if (D.tup (ns.map .int)).sh 60 && (D.tup []).sh 60 then some (PyData.eqv (D.tup (ns.map .int)).py (D.tup []).py) else none := rfl
  have h2 : (D.tup (ns.map .int)).sh 60 = true := shs_ints 59 ns
  have h3 : ((D.tup (ns.map .int)).sh 60 && (D.tup []).sh 60) = true := by rw [h2] <;> rfl
  show (eqD (.tup (ns.map .int)) (.tup [])).map (!·) = _
  rw [h, if_pos h3]
  cases ns with
  | nil => simp [D.py, D.pys, PyData.eqv, PyData.eqvAll]
  | cons n ns => simp [D.py, D.pys, PyData.eqv, PyData.eqvAll]
theorem int_pl (k : Nat) (i : Int) : (D.int i).pl (k + 1) = true := by
  show decide (0 < k + 1) = true
  simp
mutual
theorem plM : ∀ (d : D) (k j : Nat), d.pl k = true → d.pl (k + j) = true
  | .non, k, j, h => by
    have h' : 0 < k := of_decide_eq_true h
    exact decide_eq_true (by omega)
  | .bl _, k, j, h => by
    have h' : 0 < k := of_decide_eq_true h
    exact decide_eq_true (by omega)
  | .int _, k, j, h => by
    have h' : 0 < k := of_decide_eq_true h
    exact decide_eq_true (by omega)
  | .str _, k, j, h => by
    have h' : 0 < k := of_decide_eq_true h
    exact decide_eq_true (by omega)
  | .tup xs, k, j, h => by
    have h' : (decide (0 < k) && decide (xs.length ≤ 1000000) && D.pls xs (k - 1)) = true := h
    simp only [Bool.and_eq_true, decide_eq_true_eq] at h'
    show (decide (0 < k + j) && decide (xs.length ≤ 1000000) && D.pls xs (k + j - 1)) = true
    have e : k + j - 1 = (k - 1) + j := by omega
    rw [e, plsM xs (k - 1) j h'.2]
    simp only [Bool.and_eq_true, decide_eq_true_eq, and_true]
    exact ⟨by omega, h'.1.2⟩
  | .lst _, _, _, h => by cases h
  | .ref _, _, _, h => by cases h
  | .scr _, _, _, h => by cases h
  | .emp, _, _, h => by cases h
theorem plsM : ∀ (xs : List D) (k j : Nat), D.pls xs k = true → D.pls xs (k + j) = true
  | [], _, _, _ => rfl
  | x :: r, k, j, h => by
    have h' : (x.pl k && D.pls r k) = true := h
    rw [Bool.and_eq_true] at h'
    show (x.pl (k + j) && D.pls r (k + j)) = true
    rw [plM x k j h'.1, plsM r k j h'.2] <;> rfl
end
theorem cut_fromG (xs : List D) {t : Int} (h0 : 0 ≤ t) : cut xs (some t) none = xs.drop t.toNat := by
  by_cases h : t.toNat ≤ xs.length
  · exact cut_from xs h0 h
  · have e : ((t.toNat : Nat) : Int) = t := by omega
    have q := HT.sIx_nat xs.length 0 t.toNat
    rw [e] at q
    unfold cut
    rw [q, List.drop_of_length_le (l := xs) (i := t.toNat) (by omega)]
    have : min t.toNat xs.length = xs.length := Nat.min_eq_right (by omega)
    rw [this, List.drop_length]
    simp
@[simp] theorem compL_nil (fe : Env' → Store → Res D) (fc : Env' → Store → Res Bool) (tg : Tg) (ρ : Env') (acc : List D) (M : Store) : compL fe fc tg ρ [] acc M = .ok acc M := Eq.trans rfl rfl
theorem ixN_int {k : Nat} {t : Int} (h0 : 0 ≤ t) (h : t.toNat < k) : L2.ixN k t = some t.toNat := by
  unfold L2.ixN
  rw [if_pos h0, if_pos (by omega)]
theorem atI_opt {xs : List Int} {t z : Int} (h0 : 0 ≤ t) (h : xs[t.toNat]? = some z) : L2.atI (xs.map D.int) t = some (.int z) := by
  obtain ⟨h1, h2⟩ := List.getElem?_eq_some_iff.mp h
  rw [atI_int xs h0 h1, h2]
theorem pl_t {k : Nat} {xs : List D} (hl : xs.length ≤ 1000) (h : D.pls xs (k + 1) = true) : (D.tup xs).pl (k + 2) = true := by
  show (decide (0 < k + 2) && decide (xs.length ≤ 1000000) && D.pls xs (k + 1)) = true
  rw [h, decide_eq_true (show xs.length ≤ 1000000 by omega)] <;> rfl
theorem pls_c {k : Nat} {x : D} {r : List D} (h : x.pl k = true) (g : D.pls r k = true) : D.pls (x :: r) k = true := by
  show (x.pl k && D.pls r k) = true
  rw [h, g] <;> rfl
theorem tI_plB (k : Nat) (xs : List Int) (h : xs.length ≤ 1000) : (tI xs).pl (k + 2) = true := by
  refine pl_t (by simp; omega) (pls_of fun x hx => ?_)
  obtain ⟨i, _, rfl⟩ := List.mem_map.mp hx
  exact int_pl _ _
theorem tIm_plB (k : Nat) (xs : List Int) (h : xs.length ≤ 1000) : (D.tup (xs.map .int)).pl (k + 2) = true := tI_plB k xs h
theorem call_same {n : Nat} {d e : D} (he : d = e) (h : d.pl (n + 1) = true) (M : Store) : callR (Ph (n + 1)) "_law_same" 0 [d, e] M = .ok (.bl true) M := by
  subst he
  exact callR0 (same_ok lk_law_same (n + 1) d h) (cls2 (pl_cl _ _ h) (pl_cl _ _ h)) rfl
theorem cop_nestr (t : Str) : cop .ne (.str t) (.str t) = some false := by
  show (some (decide (t = t))).map (!·) = _
  simp

/-! lists of ints, read by int indices -/
theorem fv_get {xs : List Int} {i : Int} (h0 : 0 ≤ i) (h : i < (xs.length : Int)) : L2.atI (xs.map D.int) i = some (.int (fv xs i)) := by
  have hl : i.toNat < xs.length := by omega
  rw [atI_int xs h0 hl]
  unfold fv
  rw [List.getD_eq_getElem?_getD, List.getElem?_eq_getElem hl] <;> rfl
theorem cut_init {α : Type} (xs : List α) (x : α) : cut (xs ++ [x]) none (some (-1)) = xs := by
  have e : HT.sIx (xs ++ [x]).length (xs ++ [x]).length (some (-1)) = xs.length := by
    show (if (-1 : Int) < 0 then (-1 + ((xs ++ [x]).length : Int)).toNat else min (-1 : Int).toNat (xs ++ [x]).length) = _
    rw [if_pos (by decide), List.length_append]
    simp only [List.length_cons, List.length_nil]
    omega
  have e0 : HT.sIx (xs ++ [x]).length 0 none = 0 := rfl
  unfold cut
  rw [e, e0, List.drop_zero, Nat.sub_zero]
  simp
theorem cut_init' {α : Type} (xs : List α) : cut xs none (some (-1)) = xs.dropLast := by
  rcases List.eq_nil_or_concat xs with rfl | ⟨l, b, rfl⟩
  · rfl
  · rw [List.concat_eq_append, cut_init, List.dropLast_concat]
theorem atI_last2 {α : Type} (xs : List α) (x y : α) : L2.atI (xs ++ [x, y]) (-2) = some x := by
  unfold L2.atI L2.ixN
  rw [if_neg (by decide), if_pos (by simp only [List.length_append, List.length_cons, List.length_nil]; omega)]
  have e : (-2 + ((xs ++ [x, y]).length : Int)).toNat = xs.length := by rw [List.length_append]; simp only [List.length_cons, List.length_nil]; omega
  show (xs ++ [x, y])[(-2 + ((xs ++ [x, y]).length : Int)).toNat]? = some x
  rw [e]
  simp
@[simp] theorem partC_neg (c : C) (i : Int) : partC (.neg c) (.int i) = some (some i) := rfl
/-! the program's stack -/
abbrev Rg (xs : List Int) (r : List Int) : Prop := ∀ i ∈ r, 0 ≤ i ∧ i < (xs.length : Int)
abbrev tS (r : List Int) : D := tI r.reverse
def ApI (xs : List Int) (v : D) (p : Int) (L : List Int) (k : Nat) (ρ : Env') (M : Store) : Prop := ∃ r : List Int, k = r.length ∧ Rg xs r ∧ pop (fv xs) (fv xs p) r = L ∧ ρ = [some (tI xs), some v, some (.int p), some (tS r)] ∧ M = []
theorem a_after (n : Nat) {xs r : List Int} {p : Int} (hp : 0 ≤ p ∧ p < (xs.length : Int)) (hr : Rg xs r) (hl : r.length ≤ 1000) : Ans (Ph (n + 1)) "after_place" [tI xs, tS r, .int p] (tS (p :: pop (fv xs) (fv xs p) r)) := by
  generalize hL : pop (fv xs) (fv xs p) r = L
  have hLl : L.length ≤ 1000 := by
    rw [← hL]
    have : ∀ s : List Int, (pop (fv xs) (fv xs p) s).length ≤ s.length := by
      intro s
      induction s with
      | nil => exact Nat.le_refl _
      | cons a s ih =>
        unfold pop
        split
        · exact Nat.le_trans ih (Nat.le_succ _)
        · exact Nat.le_refl _
    exact Nat.le_trans (this r) hl
  have gp := fv_get hp.1 hp.2
  refine ans_run lk_after_place rfl ?_
  simp [c_after_place]
  refine WP_bind (WP.mono (Q := fun f M => f = .nx [some (tI xs), some (tS r), some (.int p), some (tS L)] ∧ M = []) (WP_while (ApI xs (tS r) p L) (fun k ρ M hI => ?_) (n := r.length) ⟨r, rfl, hr, hL, rfl, rfl⟩) (fun f M hf => ?_))
  · obtain ⟨s, rfl, hs, hpo, rfl, rfl⟩ := hI
    cases s with
    | nil =>
      have h0 := eq_tup_nil []
      have : L = [] := by rw [← hpo] <;> rfl
      subst this
      simp at h0
      simp [h0]
    | cons i s =>
      have h0 := eq_tup_nil (i :: s).reverse
      have hi := hs i (List.mem_cons_self ..)
      have al := atI_last (s.reverse.map D.int) (D.int i)
      have gi := fv_get hi.1 hi.2
      have ci := cut_init (s.reverse.map D.int) (D.int i)
      simp at h0 al ci
      unfold pop at hpo
      by_cases hx : fv xs p ≤ fv xs i
      · rw [if_pos hx] at hpo
        simp [h0, al, gi, gp, hx, b_after_place_1, ci]
        exact ⟨s.length, by omega, s, rfl, fun j hj => hs j (List.mem_cons_of_mem _ hj), hpo, by simp, rfl⟩
      · rw [if_neg hx] at hpo
        subst hpo
        simp [h0, al, gi, gp, hx]
  · obtain ⟨rfl, rfl⟩ := hf
    have cat : bop .add (tS L) (.tup [.int p]) = some (.tup ((L.reverse.map D.int) ++ [.int p])) := bop_cat (by simp; omega)
    simp at cat
    simp [cat]
end Lk73

set_option Elab.async false
set_option linter.all false
set_option maxRecDepth 100000
set_option maxHeartbeats 8000000
namespace Lk73
open PySem CZ
theorem rngL_cons {i j : Int} (h : i < j) : rngL i j = .int i :: rngL (i + 1) j := by
  unfold rngL
  obtain ⟨m, hm⟩ : ∃ m, (j - i).toNat = m + 1 := ⟨(j - i).toNat - 1, by omega⟩
  have h2 : (j - (i + 1)).toNat = m := by omega
  rw [hm, h2, List.range_succ_eq_map]
  simp only [List.map_cons, List.map_map]
  congr 1
  · simp
  · apply List.map_congr_left
    intro a _
    simp only [Function.comp]
    congr 1
    push_cast
    omega
theorem rngL_nil {i j : Int} (h : j ≤ i) : rngL i j = [] := by
  unfold rngL
  have : (j - i).toNat = 0 := by omega
  rw [this] <;> rfl
def IsN (p : Int) (k : Nat) : Prop := p = (k : Int)
theorem st_step {f : Int → Int} {w p : Int} {k : Nat} (h : p = (k : Int)) : st f w (k + 1) = p :: pop f (f p) (exq w p (st f w k)) := by
  subst h
  rfl
theorem st_rg {xs : List Int} {w : Int} (hw : 1 ≤ w) {k : Nat} (hk : k ≤ xs.length) : Rg xs (st (fv xs) w k) := fun i hi => by
  have := (inv_st (f := fv xs) hw k).rng i hi
  omega
theorem pop_len (f : Int → Int) (x : Int) : ∀ s : List Int, (pop f x s).length ≤ s.length
  | [] => Nat.le_refl _
  | a :: s => by
    unfold pop
    split
    · exact Nat.le_trans (pop_len f x s) (Nat.le_succ _)
    · exact Nat.le_refl _
theorem st_len (f : Int → Int) (w : Int) : ∀ k, (st f w k).length ≤ k
  | 0 => Nat.le_refl _
  | k + 1 => by
    have a := st_len f w k
    have b := exq_len w k (st f w k)
    have c := pop_len f (f k) (exq w k (st f w k))
    show (pop f (f k) (exq w k (st f w k))).length + 1 ≤ k + 1
    omega
theorem exq_rg {xs r : List Int} {w p : Int} (h : Rg xs r) : Rg xs (exq w p r) := fun i hi => by
  unfold exq at hi
  split at hi
  · split at hi
    · exact h i (List.dropLast_subset r hi)
    · exact h i hi
  · exact h i hi
def sts (f : Int → Int) (w : Int) (n : Nat) : List (List Int) := (List.range n).map fun k => st f w (k + 1)
theorem sts_succ (f : Int → Int) (w : Int) (n : Nat) : sts f w (n + 1) = sts f w n ++ [st f w (n + 1)] := by simp [sts, List.range_succ]
theorem sts_len (f : Int → Int) (w : Int) (n : Nat) : (sts f w n).length = n := by simp [sts]
theorem call_after {n : Nat} {xs r : List Int} {p : Int} (hp : 0 ≤ p ∧ p < (xs.length : Int)) (hr : Rg xs r) (hl : r.length ≤ 1000) (M : Store) : callR (Ph (n + 1)) "after_place" 0 [tI xs, tS r, .int p] M = .ok (tS (p :: pop (fv xs) (fv xs p) r)) M := callR0 (a_after n hp hr hl) (by
  show ((tI xs).cl 0 && ((tS r).cl 0 && (true && true))) = true
  rw [tI_cl, tI_cl] <;> rfl) (tI_cl 0 _)
theorem atI_head {α : Type} (x : α) (xs : List α) : L2.atI (x :: xs) 0 = some x := atI_nat (x :: xs) 0 (by simp)
theorem cut_one {α : Type} (x : D) (xs : List D) : cut (x :: xs) (some 1) none = xs := cut_from (x :: xs) (t := 1) (by decide) (by simp)
theorem no_exp {xs : List Int} {w p : Int} (hw : (xs.length : Int) ≤ w) (hw1 : 1 ≤ w) {k : Nat} (hp : p = (k : Int)) (hk : k < xs.length) : exq w p (st (fv xs) w k) = st (fv xs) w k := exq_all fun i hi => by
  have := st_rg hw1 (by omega) i hi
  omega
theorem lenF_tI {xs : List Int} {L : Int} (h : L = (xs.length : Int)) (M : Store) : lenF (tI xs) M = .ok (.int L) M := by
  subst h
  simp
theorem a_stacks (n : Nat) {xs : List Int} {w : Int} (hw : (xs.length : Int) ≤ w) (hw1 : 1 ≤ w) (hl : xs.length ≤ 60) : Ans (Ph (n + 2)) "stacks_of" [tI xs] (.lst ((sts (fv xs) w xs.length).map tS)) := by
  obtain ⟨L, hL⟩ : ∃ L : Int, L = (xs.length : Int) := ⟨_, rfl⟩
  generalize hd : D.lst ((sts (fv xs) w xs.length).map tS) = d
  refine ans_run lk_stacks_of rfl ?_
  have hlen := lenF_tI hL
  simp only [tI] at hlen
  simp [c_stacks_of, hlen, -lenF_tup]
  rw [rngF_int 0 L _ (by omega), Res.bind_ok]
  refine WP_bind (WP.mono (Q := fun f M => ∃ x1 x2, f = .nx [some (tI xs), x1, x2, some (.ref 0)] ∧ M = [.lst ((sts (fv xs) w xs.length).map tS)]) (WP_for (fun ys ρ M => ∃ (k : Nat) (p : Int) (x1 : Option D), IsN p k ∧ k ≤ xs.length ∧ ys = rngL p L ∧ ρ = [some (tI xs), x1, some (tS (st (fv xs) w k)), some (.ref 0)] ∧ M = [.lst ((sts (fv xs) w k).map tS)]) ⟨0, 0, none, rfl, by omega, rfl, rfl, rfl⟩ (fun x r ρ M hI => ?_) (fun ρ M hI => ?_)) (fun f M hf => ?_))
  · obtain ⟨k, p, x1, hp0, hk, hys, rfl, rfl⟩ := hI
    have hp : p = (k : Int) := hp0
    have hlt : p < L := by
      rcases Int.lt_or_le p L with q | q
      · exact q
      · rw [rngL_nil q] at hys
        cases hys
    rw [rngL_cons hlt] at hys
    cases hys
    have hr := st_rg (xs := xs) hw1 (k := k) (by omega)
    have sl := st_len (fv xs) w k
    have c1 := call_after (n := n) (xs := xs) (p := p) (by omega) hr (by omega)
    have e := no_exp hw hw1 hp (by omega)
    have e2 := st_step (f := fv xs) (w := w) hp
    rw [e] at e2
    rw [← e2] at c1
    have e3 := sts_succ (fv xs) w k
    have sl2 := sts_len (fv xs) w k
    refine ⟨_, setT_nm, ?_⟩
    generalize hs2 : st (fv xs) w (k + 1) = s2 at *
    generalize st (fv xs) w k = s1 at *
    simp only [tI] at *
    simp [b_stacks_of_1, c1]
    rw [appF_lst _ _ _ _ (by simp; omega)]
    simp
    exact ⟨k + 1, p + 1, by show p + 1 = ((k + 1 : Nat) : Int); push_cast; omega, by omega, rfl, by rw [hs2], by rw [e3]; simp⟩
  · obtain ⟨k, p, x1, hp0, hk, hys, rfl, rfl⟩ := hI
    have hp : p = (k : Int) := hp0
    have hge : L ≤ p := by
      rcases Int.lt_or_le p L with q | q
      · rw [rngL_cons q] at hys
        cases hys
      · exact q
    have : k = xs.length := by omega
    subst this
    exact ⟨_, _, rfl, rfl⟩
  · obtain ⟨x1, x2, rfl, rfl⟩ := hf
    simp [hd]
end Lk73

set_option Elab.async false
set_option linter.all false
set_option maxRecDepth 100000
set_option maxHeartbeats 8000000
namespace Lk73
open PySem CZ
theorem tS_cl (k : Nat) (r : List Int) : (tS r).cl k = true := tI_cl k _
theorem clsS (k : Nat) (l : List (List Int)) : D.cls k (l.map tS) = true := cls_of fun x hx => by
  obtain ⟨r, _, rfl⟩ := List.mem_map.mp hx
  exact tS_cl k r
/-- the bottom is read first -/
theorem atI_bot {r : List Int} {b : Int} (h : r.getLast? = some b) : L2.atI (r.reverse.map D.int) 0 = some (.int b) := by
  rcases List.eq_nil_or_concat r with rfl | ⟨l, c, rfl⟩
  · cases h
  · rw [List.concat_eq_append, List.getLast?_concat] at h
    cases h
    rw [List.concat_eq_append, List.reverse_append]
    exact atI_head _ _
theorem rev_ne {r : List Int} (h : r ≠ []) : r.reverse ≠ [] := by simpa using h
theorem exq_cut {b : Int} {r : List Int} (h : r.getLast? = some b) : cut (r.reverse.map D.int) (some 1) none = (r.dropLast.reverse).map D.int := by
  rcases List.eq_nil_or_concat r with rfl | ⟨l, c, rfl⟩
  · cases h
  · rw [List.concat_eq_append, List.reverse_append, List.dropLast_concat]
    exact cut_one (α := Int) (.int c) _
theorem a_window (n : Nat) {xs : List Int} {w : Int} (hw1 : 1 ≤ w) (hw2 : w ≤ 1000) (hl : xs.length ≤ 60) : Ans (Ph (n + 2)) "window_stacks" [tI xs, .int w] (.lst ((sts (fv xs) w xs.length).map tS)) := by
  obtain ⟨L, hL⟩ : ∃ L : Int, L = (xs.length : Int) := ⟨_, rfl⟩
  generalize hd : D.lst ((sts (fv xs) w xs.length).map tS) = d
  refine ans_run lk_window_stacks rfl ?_
  have hlen := lenF_tI hL
  simp only [tI] at hlen
  simp [c_window_stacks, hlen, -lenF_tup]
  rw [rngF_int 0 L _ (by omega), Res.bind_ok]
  refine WP_bind (WP.mono (Q := fun f M => ∃ x1 x2, f = .nx [some (tI xs), some (.int w), x1, x2, some (.ref 0)] ∧ M = [.lst ((sts (fv xs) w xs.length).map tS)]) (WP_for (fun ys ρ M => ∃ (k : Nat) (p : Int) (x1 : Option D), IsN p k ∧ k ≤ xs.length ∧ ys = rngL p L ∧ ρ = [some (tI xs), some (.int w), x1, some (tS (st (fv xs) w k)), some (.ref 0)] ∧ M = [.lst ((sts (fv xs) w k).map tS)]) ⟨0, 0, none, rfl, by omega, rfl, rfl, rfl⟩ (fun x r ρ M hI => ?_) (fun ρ M hI => ?_)) (fun f M hf => ?_))
  · obtain ⟨k, p, x1, hp0, hk, hys, rfl, rfl⟩ := hI
    have hp : p = (k : Int) := hp0
    have hlt : p < L := by
      rcases Int.lt_or_le p L with q | q
      · exact q
      · rw [rngL_nil q] at hys
        cases hys
    rw [rngL_cons hlt] at hys
    cases hys
    have hr := st_rg (xs := xs) hw1 (k := k) (by omega)
    have sl := st_len (fv xs) w k
    have el := exq_len w p (st (fv xs) w k)
    have c1 := call_after (n := n) (xs := xs) (p := p) (by omega) (exq_rg (w := w) (p := p) hr) (by omega)
    have e2 := st_step (f := fv xs) (w := w) hp
    rw [← e2] at c1
    have e3 := sts_succ (fv xs) w k
    have sl2 := sts_len (fv xs) w k
    refine ⟨_, setT_nm, ?_⟩
    simp only [b_window_stacks_1, ex_seq]
    refine WP_bind (WP.mono (Q := fun f M => f = .nx [some (tI xs), some (.int w), some (.int p), some (tS (exq w p (st (fv xs) w k))), some (.ref 0)] ∧ M = [.lst ((sts (fv xs) w k).map tS)]) ?_ (fun f M hf => ?_))
    · cases hb : (st (fv xs) w k).getLast? with
      | none =>
        have e0 : st (fv xs) w k = [] := List.getLast?_eq_none_iff.mp hb
        have ee : exq w p (st (fv xs) w k) = [] := by rw [e0] <;> rfl
        have h0 := eq_tup_nil []
        simp at h0
        rw [ee, e0]
        simp [h0]
      | some b =>
        have hne : st (fv xs) w k ≠ [] := fun z => by rw [z] at hb; cases hb
        have h0 := eq_tup_nil (st (fv xs) w k).reverse
        have hemp : (st (fv xs) w k).reverse.isEmpty = false := by simpa using hne
        rw [hemp] at h0
        have ab := atI_bot hb
        have ec := exq_cut hb
        by_cases q : b ≤ p - w
        · have ee : exq w p (st (fv xs) w k) = (st (fv xs) w k).dropLast := by
            unfold exq
            rw [hb]
            exact if_pos q
          rw [ee]
          generalize (st (fv xs) w k).dropLast = s1 at *
          generalize st (fv xs) w k = s0 at *
          simp only [tI] at *
          simp [h0, ab, q, ec, -List.map_reverse]
        · have ee : exq w p (st (fv xs) w k) = st (fv xs) w k := by
            unfold exq
            rw [hb]
            exact if_neg q
          rw [ee]
          generalize st (fv xs) w k = s0 at *
          simp only [tI] at *
          simp [h0, ab, q, -List.map_reverse]
    · obtain ⟨rfl, rfl⟩ := hf
      generalize hs2 : st (fv xs) w (k + 1) = s2 at *
      generalize exq w p (st (fv xs) w k) = s1 at *
      generalize st (fv xs) w k = s0 at *
      simp only [tI] at *
      simp [c1]
      rw [appF_lst _ _ _ _ (by simp; omega)]
      simp
      exact ⟨k + 1, p + 1, by show p + 1 = ((k + 1 : Nat) : Int); push_cast; omega, by omega, rfl, by rw [hs2], by rw [e3]; simp⟩
  · obtain ⟨k, p, x1, hp0, hk, hys, rfl, rfl⟩ := hI
    have hp : p = (k : Int) := hp0
    have hge : L ≤ p := by
      rcases Int.lt_or_le p L with q | q
      · rw [rngL_cons q] at hys
        cases hys
      · exact q
    have : k = xs.length := by omega
    subst this
    exact ⟨_, _, rfl, rfl⟩
  · obtain ⟨x1, x2, rfl, rfl⟩ := hf
    simp [hd]
end Lk73

set_option Elab.async false
set_option linter.all false
set_option maxRecDepth 100000
set_option maxHeartbeats 8000000
namespace Lk73
open PySem CZ
@[simp] theorem partC_bin (o : BO) (a b : C) (i : Int) : partC (.bin o a b) (.int i) = some (some i) := Eq.trans rfl rfl
theorem call_stacks {n : Nat} {xs : List Int} {w : Int} (hw : (xs.length : Int) ≤ w) (hw1 : 1 ≤ w) (hl : xs.length ≤ 60) (M : Store) : callR (Ph (n + 2)) "stacks_of" 0 [tI xs] M = .ok (.lst ((sts (fv xs) w xs.length).map tS)) M := callR0 (a_stacks n hw hw1 hl) (cls1 (tI_cl 0 xs)) (clsS 0 _)
theorem call_windows {n : Nat} {xs : List Int} {w : Int} (hw1 : 1 ≤ w) (hw2 : w ≤ 1000) (hl : xs.length ≤ 60) (M : Store) : callR (Ph (n + 2)) "window_stacks" 0 [tI xs, .int w] M = .ok (.lst ((sts (fv xs) w xs.length).map tS)) M := callR0 (a_window n hw1 hw2 hl) (cls2 (tI_cl 0 xs) rfl) (clsS 0 _)
theorem sts_last {f : Int → Int} {w : Int} {n : Nat} (h : 1 ≤ n) : L2.atI ((sts f w n).map tS) (-1) = some (tS (st f w n)) := by
  obtain ⟨m, rfl⟩ : ∃ m, n = m + 1 := ⟨n - 1, by omega⟩
  rw [sts_succ, List.map_append]
  exact atI_last _ _
theorem a_least_stack (n : Nat) {xs : List Int} {w : Int} (hw : (xs.length : Int) ≤ w) (hw1 : 1 ≤ w) (hl : xs.length ≤ 60) : Ans (Ph (n + 3)) "least_stack" [tI xs] (tS (st (fv xs) w xs.length)) := by
  have c1 := call_stacks (n := n) hw hw1 hl
  generalize hd : tS (st (fv xs) w xs.length) = d
  refine ans_run lk_least_stack rfl ?_
  have h0 := eq_tup_nil xs
  cases xs with
  | nil =>
    have : d = .tup [] := by rw [← hd] <;> rfl
    subst this
    simp at h0
    simp [c_least_stack, h0]
  | cons x xs =>
    have e := sts_last (f := fv (x :: xs)) (w := w) (n := (x :: xs).length) (by simp)
    rw [hd] at e
    generalize (sts (fv (x :: xs)) w (x :: xs).length).map tS = l at *
    simp at h0
    simp only [tI, List.map_cons] at *
    simp [c_least_stack, h0, c1, e]
def ahd : List Int → D
  | _ :: b :: _ => .int b
  | _ => .non
theorem a_least_ahead (n : Nat) {xs : List Int} {w : Int} (hw : (xs.length : Int) ≤ w) (hw1 : 1 ≤ w) (hl : xs.length ≤ 60) : Ans (Ph (n + 3)) "least_ahead" [tI xs] (.tup ((sts (fv xs) w xs.length).map ahd)) := by
  have c1 := call_stacks (n := n) hw hw1 hl
  have hsl := sts_len (fv xs) w xs.length
  refine ans_run lk_least_ahead rfl ?_
  generalize sts (fv xs) w xs.length = l at *
  simp only [tI] at *
  simp [c_least_ahead, c1]
  rw [compL_mapF (f := tS) (h := ahd)]
  · simp
  · intro r hr
    refine ⟨_, rfl, rfl, ?_⟩
    match r with
    | [] => simp [ahd]
    | [a] => simp [ahd]
    | a :: b :: s =>
      have e := atI_last2 (s.reverse.map D.int) (.int b) (.int a)
      have h1 : (1 : Int) < (s.length : Int) + 2 := by omega
      rw [List.map_reverse] at e
      simp [ahd, h1, e]
  · simp
    omega
def sz (f : Int → Int) (w : Int) (k : Nat) : Int := ((st f w k).length : Int)
theorem sz0 (f : Int → Int) (w : Int) : sz f w 0 = 0 := rfl
def lcs (f : Int → Int) (w : Int) (n : Nat) : List Int := (List.range n).map fun k => sz f w k + 2 - sz f w (k + 1)
theorem cut_tail {α : Type} (x : α) (xs : List α) : cut (x :: xs) (some 1) none = xs := by
  have q := HT.sIx_nat (x :: xs).length 0 1
  have q3 : HT.sIx (x :: xs).length (x :: xs).length none = (x :: xs).length := rfl
  have q' : HT.sIx (x :: xs).length 0 (some 1) = 1 := by
    have : ((1 : Nat) : Int) = 1 := rfl
    rw [this] at q
    rw [q]
    simp
  unfold cut
  rw [q', q3]
  simp
theorem a_least_costs (n : Nat) {xs : List Int} {w : Int} (hw : (xs.length : Int) ≤ w) (hw1 : 1 ≤ w) (hl : xs.length ≤ 60) : Ans (Ph (n + 3)) "least_costs" [tI xs] (tI (lcs (fv xs) w xs.length)) := by
  have c1 := call_stacks (n := n) hw hw1 hl
  have hsl := sts_len (fv xs) w xs.length
  generalize hd : tI (lcs (fv xs) w xs.length) = d
  refine ans_run lk_least_costs rfl ?_
  have e1 : (sts (fv xs) w xs.length).map (fun r => D.int ((r.length : Nat) : Int)) = (List.range xs.length).map fun k => D.int (sz (fv xs) w (k + 1)) := by
    unfold sts
    rw [List.map_map]
    rfl
  have e2 : D.int 0 :: (List.range xs.length).map (fun k => D.int (sz (fv xs) w (k + 1))) = (List.range (xs.length + 1)).map fun k => D.int (sz (fv xs) w k) := by
    rw [List.range_succ_eq_map, List.map_cons, List.map_map]
    rfl
  have e3 : ((List.range (xs.length + 1)).map fun k => D.int (sz (fv xs) w k)).dropLast = (List.range xs.length).map fun k => D.int (sz (fv xs) w k) := by
    rw [List.range_succ, List.map_append, List.map_cons, List.map_nil, List.dropLast_concat]
  have e4 : ∀ l : List Nat, List.zipWith (fun u v => D.tup [u, v]) (l.map fun k => D.int (sz (fv xs) w k)) (l.map fun k => D.int (sz (fv xs) w (k + 1))) = l.map fun k => D.tup [.int (sz (fv xs) w k), .int (sz (fv xs) w (k + 1))] := by
    intro l
    induction l with
    | nil => rfl
    | cons a l ih => simp [ih]
  have q1 : compL (ev (Ph (n + 2)) (.blt .len false (.cons (.var 2) .nil))) (fun (_ : Env') M => Res.ok true M) (.nm 2) [some (tI xs), none, none, none, none] ((sts (fv xs) w xs.length).map tS) [] [] = .ok ((List.range xs.length).map fun k => D.int (sz (fv xs) w (k + 1))) [] := by
    rw [compL_mapF (f := tS) (h := fun r => D.int ((r.length : Nat) : Int)), e1]
    · rfl
    · intro r hr
      refine ⟨_, rfl, rfl, ?_⟩
      simp
    · simp
      omega
  have q2 : bop .add (.lst [D.int 0]) (.lst ((List.range xs.length).map fun k => D.int (sz (fv xs) w (k + 1)))) = some (.lst ((List.range (xs.length + 1)).map fun k => D.int (sz (fv xs) w k))) := by
    rw [← e2]
    exact if_pos (by rw [PySem.sizeLine_eq]; simp; omega)
  have q3 : cut ((List.range (xs.length + 1)).map fun k => D.int (sz (fv xs) w k)) none (some (-1)) = (List.range xs.length).map fun k => D.int (sz (fv xs) w k) := by rw [cut_init', e3]
  have q4 : cut ((List.range (xs.length + 1)).map fun k => D.int (sz (fv xs) w k)) (some 1) none = (List.range xs.length).map fun k => D.int (sz (fv xs) w (k + 1)) := by rw [← e2, cut_tail]
  have q5 : ∀ ρ0 : Option D, compL (ev (Ph (n + 2)) (.bin .sub (.bin .add (.var 3) (.kI 2)) (.var 4))) (fun (_ : Env') M => Res.ok true M) (.tp [3, 4]) [some (tI xs), ρ0, none, none, none] ((List.range xs.length).map fun k => D.tup [.int (sz (fv xs) w k), .int (sz (fv xs) w (k + 1))]) [] [] = .ok ((lcs (fv xs) w xs.length).map .int) [] := fun ρ0 => by
    rw [compL_mapF (f := fun k => D.tup [.int (sz (fv xs) w k), .int (sz (fv xs) w (k + 1))]) (h := fun k => D.int (sz (fv xs) w k + 2 - sz (fv xs) w (k + 1)))]
    · unfold lcs
      rw [List.map_map]
      rfl
    · intro k hk
      refine ⟨_, rfl, rfl, ?_⟩
      generalize sz (fv xs) w k = a
      generalize sz (fv xs) w (k + 1) = b
      simp
    · simp
      omega
  have e5 := e4 (List.range xs.length)
  generalize (List.range xs.length).map (fun k => D.int (sz (fv xs) w k)) = l1 at *
  generalize (List.range xs.length).map (fun k => D.int (sz (fv xs) w (k + 1))) = l2 at *
  generalize (List.range (xs.length + 1)).map (fun k => D.int (sz (fv xs) w k)) = l3 at *
  generalize (List.range xs.length).map (fun k => D.tup [.int (sz (fv xs) w k), .int (sz (fv xs) w (k + 1))]) = l4 at *
  generalize lcs (fv xs) w xs.length = l5 at *
  subst hd
  generalize (sts (fv xs) w xs.length).map tS = l6 at *
  simp only [tI] at *
  simp [c_least_costs, c1, q1, q2, q3, q4, e5, q5]
def bot (r : List Int) : Int := r.getLastD 0
def wls (f : Int → Int) (w : Int) (n : Nat) : List Int := ((sts f w n).drop (w - 1).toNat).map fun r => f (bot r)
theorem st_ne (f : Int → Int) (w : Int) (k : Nat) : st f w (k + 1) ≠ [] := by
  show _ :: _ ≠ []
  simp
theorem bot_get {r : List Int} (h : r ≠ []) : r.getLast? = some (bot r) := by
  unfold bot
  rcases List.eq_nil_or_concat r with rfl | ⟨l, c, rfl⟩
  · exact absurd rfl h
  · simp
theorem bot_mem {r : List Int} (h : r ≠ []) : bot r ∈ r := List.mem_of_getLast? (bot_get h)
theorem sts_mem {f : Int → Int} {w : Int} {n : Nat} {r : List Int} (h : r ∈ sts f w n) : ∃ k, k < n ∧ r = st f w (k + 1) := by
  obtain ⟨k, hk, rfl⟩ := List.mem_map.mp h
  exact ⟨k, List.mem_range.mp hk, rfl⟩
theorem a_window_least (n : Nat) {xs : List Int} {w : Int} (hw1 : 1 ≤ w) (hw2 : w ≤ 1000) (hl : xs.length ≤ 60) : Ans (Ph (n + 3)) "window_least" [tI xs, .int w] (tI (wls (fv xs) w xs.length)) := by
  have c1 := call_windows (n := n) hw1 hw2 hl
  have hsl := sts_len (fv xs) w xs.length
  generalize hd : tI (wls (fv xs) w xs.length) = d
  refine ans_run lk_window_least rfl ?_
  have ec : cut ((sts (fv xs) w xs.length).map tS) (some (w - 1)) none = ((sts (fv xs) w xs.length).drop (w - 1).toNat).map tS := by
    rw [cut_fromG _ (by omega), List.map_drop]
  have q : compL (ev (Ph (n + 2)) (.idx (.var 0) (.idx (.var 2) (.kI 0)))) (fun (_ : Env') M => Res.ok true M) (.nm 2) [some (tI xs), some (.int w), none] (((sts (fv xs) w xs.length).drop (w - 1).toNat).map tS) [] [] = .ok ((wls (fv xs) w xs.length).map .int) [] := by
    rw [compL_mapF (f := tS) (h := fun r => D.int (fv xs (bot r)))]
    · unfold wls
      rw [List.map_map]
      rfl
    · intro r hr
      obtain ⟨k, hk, rfl⟩ := sts_mem (List.mem_of_mem_drop hr)
      refine ⟨_, rfl, rfl, ?_⟩
      have hne := st_ne (fv xs) w k
      have a1 := atI_bot (bot_get hne)
      have rg := st_rg (xs := xs) hw1 (k := k + 1) (by omega) _ (bot_mem hne)
      have a2 := fv_get rg.1 rg.2
      generalize bot (st (fv xs) w (k + 1)) = b at *
      generalize st (fv xs) w (k + 1) = r at *
      simp only [tI] at *
      simp [a1, a2, -List.map_reverse]
    · simp
      omega
  generalize ((sts (fv xs) w xs.length).drop (w - 1).toNat).map tS = l1 at *
  generalize wls (fv xs) w xs.length = l2 at *
  subst hd
  generalize (sts (fv xs) w xs.length).map tS = l3 at *
  simp only [tI] at *
  simp [c_window_least, c1, ec, q]
theorem a_window_cost (n : Nat) {xs : List Int} {w : Int} (hw1 : 1 ≤ w) (hw2 : w ≤ 1000) (hl : xs.length ≤ 60) (hne : 1 ≤ xs.length) : Ans (Ph (n + 3)) "window_cost" [tI xs, .int w] (.int (2 * (xs.length : Int) - sz (fv xs) w xs.length)) := by
  have c1 := call_windows (n := n) hw1 hw2 hl
  have e := sts_last (f := fv xs) (w := w) hne
  have hsz : sz (fv xs) w xs.length = ((st (fv xs) w xs.length).length : Int) := rfl
  obtain ⟨L, hL⟩ : ∃ L : Int, L = (xs.length : Int) := ⟨_, rfl⟩
  rw [← hL]
  generalize hd : D.int (2 * L - sz (fv xs) w xs.length) = d
  refine ans_run lk_window_cost rfl ?_
  have hlen := lenF_tI hL
  have hlen2 := lenF_tI (xs := (st (fv xs) w xs.length).reverse) (L := sz (fv xs) w xs.length) (by rw [hsz]; simp)
  have m : bop .mul (.int 2) (.int L) = some (.int (2 * L)) := bop_mulS (by decide) (by omega)
  generalize sz (fv xs) w xs.length = z at *
  generalize (sts (fv xs) w xs.length).map tS = l3 at *
  generalize st (fv xs) w xs.length = r at *
  simp only [tI] at *
  simp [c_window_cost, c1, e, hlen, hlen2, m, hd, -lenF_tup, -List.map_reverse]
end Lk73

set_option Elab.async false
set_option linter.all false
set_option maxRecDepth 100000
set_option maxHeartbeats 8000000
namespace Lk73
open PySem CZ
def enI : Int → List Int → List D
  | _, [] => []
  | p, x :: r => .tup [.int p, .int x] :: enI (p + 1) r
theorem enmL_int : ∀ (ns : List Int) (k : Nat), enmL k (ns.map .int) = enI (k : Int) ns
  | [], _ => rfl
  | x :: r, k => by
    show D.tup [.int (k : Int), .int x] :: enmL (k + 1) (r.map .int) = .tup [.int (k : Int), .int x] :: enI ((k : Int) + 1) r
    rw [enmL_int r (k + 1)] <;> rfl
theorem enI_nil : enI 0 [] = [] := rfl
theorem drop_cons {xs : List Int} {k : Nat} {x : Int} {r : List Int} (h : xs.drop k = x :: r) : k < xs.length ∧ fv xs (k : Int) = x ∧ xs.drop (k + 1) = r := by
  have hk : k < xs.length := by
    rcases Nat.lt_or_ge k xs.length with q | q
    · exact q
    · rw [List.drop_of_length_le q] at h
      cases h
  rw [List.drop_eq_getElem_cons hk] at h
  cases h
  refine ⟨hk, ?_, rfl⟩
  unfold fv
  rw [Int.toNat_natCast, List.getD_eq_getElem?_getD, List.getElem?_eq_getElem hk] <;> rfl
def hd1 : List Int → D
  | b :: _ => .int b
  | [] => .non
def cst (f : Int → Int) (w : Int) (k : Nat) : Int := (cnt f (f k) (exq w k (st f w k)) : Int) + 1
def csts (f : Int → Int) (w : Int) (n : Nat) : List Int := (List.range n).map (cst f w)
theorem csts_succ (f : Int → Int) (w : Int) (n : Nat) : csts f w (n + 1) = csts f w n ++ [cst f w n] := by simp [csts, List.range_succ]
theorem csts_len (f : Int → Int) (w : Int) (n : Nat) : (csts f w n).length = n := by simp [csts]
def ahds (f : Int → Int) (w : Int) (n : Nat) : List D := (sts f w n).map ahd
theorem ahds_succ (f : Int → Int) (w : Int) (n : Nat) : ahds f w (n + 1) = ahds f w n ++ [ahd (st f w (n + 1))] := by simp [ahds, sts_succ]
theorem ahds_len (f : Int → Int) (w : Int) (n : Nat) : (ahds f w n).length = n := by simp [ahds, sts_len]
theorem wls_succ (f : Int → Int) {w : Int} (hw : 1 ≤ w) (n : Nat) : wls f w (n + 1) = if w - 1 ≤ n then wls f w n ++ [f (bot (st f w (n + 1)))] else wls f w n := by
  unfold wls
  rw [sts_succ]
  split
  · rename_i h
    rw [List.drop_append_of_le_length (by rw [sts_len]; omega), List.map_append]
    rfl
  · rename_i h
    rw [List.drop_of_length_le (by rw [List.length_append, sts_len]; simp; omega), List.drop_of_length_le (by rw [sts_len]; omega)]
theorem wls0 (f : Int → Int) (w : Int) : wls f w 0 = [] := by simp [wls, sts]
theorem wls_len (f : Int → Int) (w : Int) (n : Nat) : (wls f w n).length ≤ n := by
  simp [wls, sts_len]
abbrev lI (r : List Int) : D := .lst (r.reverse.map .int)
def bothN (f : Int → Int) (w : Int) (k : Nat) (b : Int) : Prop := b = 2 * (k : Int) - sz f w k
theorem both_step {f : Int → Int} {w : Int} (hw : 1 ≤ w) {k : Nat} {p b b1 : Int} (hp : p = (k : Int)) (h : bothN f w k b) (h1 : b1 = b + ((st f w k).length - (exq w p (st f w k)).length : Nat)) : bothN f w (k + 1) (b1 + (cnt f (f p) (exq w p (st f w k)) : Int) + 1) := by
  subst hp
  have e := nxt_len (f := f) (w := w) (p := k) (inv_st hw k).dn
  have l := exq_len w k (st f w k)
  have e2 : sz f w (k + 1) = ((nxt f w k (st f w k)).length : Int) := rfl
  have e3 : sz f w k = ((st f w k).length : Int) := rfl
  unfold bothN at *
  rw [e2]
  rw [e3] at h
  push_cast
  omega
theorem lst_ne {r : List Int} : cop .ne (.lst (r.map .int)) (.lst []) = some (!r.isEmpty) := by
  show (eqD (.lst (r.map .int)) (.lst [])).map (!·) = _
  rw [eq_nil_ints] <;> rfl
theorem filt_cnt (f : Int → Int) (x : Int) (r : List Int) : (r.reverse.filter fun i => decide (x ≤ f i)).length = cnt f x r := by
  unfold cnt
  rw [List.filter_reverse, List.length_reverse]
theorem cut_rev (f : Int → Int) (x : Int) {r : List Int} (h : Dn f r) {c : Int} (hc : c = (r.length : Int) - (cnt f x r : Int)) : cut (r.reverse.map D.int) none (some c) = (pop f x r).reverse.map D.int := by
  obtain ⟨a, b⟩ := pop_drop (x := x) h
  rw [cut_to _ (by omega), a]
  have e : c.toNat = r.length - cnt f x r := by omega
  rw [e, ← List.map_take, List.reverse_drop] <;> rfl
def SkI (xs : List Int) (w : Int) (ys : List D) (ρ : Env') (M : Store) : Prop := ∃ (k : Nat) (p b : Int) (x7 x8 x9 : Option D) (J : Store), IsN p k ∧ k ≤ xs.length ∧ bothN (fv xs) w k b ∧ ys = enI p (xs.drop k) ∧
  ρ = [some (tI xs), some (.int w), some (lI (st (fv xs) w k)), some (.ref 0), some (.ref 1), some (.int b), some (.ref 2), x7, x8, x9, none] ∧ M = .lst (ahds (fv xs) w k) :: .lst ((csts (fv xs) w k).map .int) :: .lst ((wls (fv xs) w k).map .int) :: J
theorem rev_getLast (p : Int) (r : List Int) : ((p :: r).reverse.map D.int) = r.reverse.map D.int ++ [.int p] := by simp
theorem lastM {α : Type} (l : List α) (a : α) : (l ++ [a])[l.length]? = some a := by simp
theorem setM {α : Type} (l : List α) (a b : α) : (l ++ [a]).set l.length b = l ++ [b] := by simp
theorem a_law_stack (n : Nat) {xs : List Int} {w b0 : Int} (hw1 : 1 ≤ w) (hw2 : w ≤ 1000) (hl : xs.length ≤ 60) (hb0 : bothN (fv xs) w xs.length b0) : Ans (Ph (n + 1)) "_law_stack" [tI xs, .int w] (.lst [tS (st (fv xs) w xs.length), .tup (ahds (fv xs) w xs.length), tI (csts (fv xs) w xs.length), .int b0, tI (wls (fv xs) w xs.length)]) := by
  generalize hd : D.lst [tS (st (fv xs) w xs.length), .tup (ahds (fv xs) w xs.length), tI (csts (fv xs) w xs.length), .int b0, tI (wls (fv xs) w xs.length)] = d
  refine ans_run lk_law_stack rfl ?_
  have e0 : enmL 0 (xs.map D.int) = enI 0 xs := enmL_int xs 0
  simp [c_law_stack, e0]
  refine WP_bind (WP.mono (Q := fun f M => ∃ ρ, f = .nx ρ ∧ SkI xs w [] ρ M) (WP_for (SkI xs w) ⟨0, 0, 0, none, none, none, [], rfl, by omega, rfl, by simp, rfl, by rw [wls0] <;> rfl⟩ (fun y r ρ M hI => ?_) (fun ρ M hI => ⟨ρ, rfl, hI⟩)) (fun f M hf => ?_))
  · obtain ⟨k, p, b, x7, x8, x9, J, hp0, hk, hb, hys, rfl, rfl⟩ := hI
    have hp : p = (k : Int) := hp0
    cases hdr : xs.drop k with
    | nil => rw [hdr] at hys; cases hys
    | cons x r' =>
      rw [hdr] at hys
      cases hys
      obtain ⟨hk1, hx, hdr2⟩ := drop_cons hdr
      rw [← hp] at hx
      have hdn := (inv_st (f := fv xs) hw1 k).dn
      have hr := st_rg (xs := xs) hw1 (k := k) (by omega)
      have hsl := st_len (fv xs) w k
      have sp := st_step (f := fv xs) (w := w) hp
      rw [hx] at sp
      have bs := fun b1 => both_step (f := fv xs) hw1 (b1 := b1) hp hb
      rw [hx] at bs
      have a3 := ahds_succ (fv xs) w k
      have c3 := csts_succ (fv xs) w k
      have w3 := wls_succ (fv xs) hw1 k
      have ce : cst (fv xs) w k = (cnt (fv xs) x (exq w p (st (fv xs) w k)) : Int) + 1 := by
        unfold cst
        rw [← hp, hx]
      have al := ahds_len (fv xs) w k
      have cl := csts_len (fv xs) w k
      have wl := wls_len (fv xs) w k
      refine ⟨_, rfl, ?_⟩
      simp only [b_law_stack_1, ex_seq]
      refine WP_bind (WP.mono (Q := fun f M1 => ∃ b1, b1 = b + ((st (fv xs) w k).length - (exq w p (st (fv xs) w k)).length : Nat) ∧ f = .nx [some (tI xs), some (.int w), some (lI (exq w p (st (fv xs) w k))), some (.ref 0), some (.ref 1), some (.int b1), some (.ref 2), some (.int p), some (.int x), x9, none] ∧ M1 = .lst (ahds (fv xs) w k) :: .lst ((csts (fv xs) w k).map .int) :: .lst ((wls (fv xs) w k).map .int) :: J) ?_ (fun f M hf => ?_))
      · clear bs sp a3 c3 w3 ce
        cases hbt : (st (fv xs) w k).getLast? with
        | none =>
          have e0 : st (fv xs) w k = [] := List.getLast?_eq_none_iff.mp hbt
          have ee : exq w p (st (fv xs) w k) = [] := by rw [e0] <;> rfl
          have h0 := lst_ne (r := [])
          simp at h0
          rw [ee, e0]
          simp [h0]
        | some bb =>
          have hne : st (fv xs) w k ≠ [] := fun z => by rw [z] at hbt; cases hbt
          have h0 := lst_ne (r := (st (fv xs) w k).reverse)
          have hemp : (st (fv xs) w k).reverse.isEmpty = false := by simpa using hne
          rw [hemp] at h0
          have ab := atI_bot hbt
          have ec := exq_cut hbt
          have hdl : (st (fv xs) w k).dropLast.length + 1 = (st (fv xs) w k).length := by
            have := List.length_pos_iff.mpr hne
            rw [List.length_dropLast]
            omega
          by_cases q : bb ≤ p - w
          · have ee : exq w p (st (fv xs) w k) = (st (fv xs) w k).dropLast := by
              unfold exq
              rw [hbt]
              exact if_pos q
            rw [ee]
            generalize (st (fv xs) w k).dropLast = s1 at *
            generalize st (fv xs) w k = s0 at *
            have e1 : s0.length - s1.length = 1 := by omega
            simp only [tI, lI] at *
            simp [h0, ab, q, ec, e1, -List.map_reverse]
          · have ee : exq w p (st (fv xs) w k) = st (fv xs) w k := by
              unfold exq
              rw [hbt]
              exact if_neg q
            rw [ee]
            generalize st (fv xs) w k = s0 at *
            simp only [tI, lI] at *
            simp [h0, ab, q, -List.map_reverse]
      · obtain ⟨b1, hb1, rfl, rfl⟩ := hf
        have bs' := bs b1 hb1
        have hr1 := exq_rg (w := w) (p := p) hr
        have hdn1 := exq_dn (w := w) (p := p) hdn
        have hl1 := exq_len w p (st (fv xs) w k)
        generalize hs1 : exq w p (st (fv xs) w k) = s1 at *
        obtain ⟨m, hm⟩ : ∃ m : Int, m = (cnt (fv xs) x s1 : Int) := ⟨_, rfl⟩
        rw [← hm] at bs' ce
        have q2 : ∀ M, lenF (.lst ((s1.reverse.filter fun i => decide (x ≤ fv xs i)).map D.int)) M = .ok (.int m) M := fun M => by
          rw [lenF_lst, List.length_map, filt_cnt, hm]
        obtain ⟨L1, hL1⟩ : ∃ L1 : Int, L1 = (s1.length : Int) := ⟨_, rfl⟩
        have q3 : ∀ M, lenF (.lst (s1.reverse.map D.int)) M = .ok (.int L1) M := fun M => by
          rw [lenF_lst, List.length_map, List.length_reverse, hL1]
        have q4 := cut_rev (fv xs) x hdn1 (c := L1 - m) (by rw [hL1, hm])
        have hps := pop_len (fv xs) x s1
        have q5 := lst_ne (r := (pop (fv xs) x s1).reverse)
        have hrs := st_rg (xs := xs) hw1 (k := k + 1) (by omega)
        have hbm := bot_mem (st_ne (fv xs) w k)
        have hbg := bot_get (st_ne (fv xs) w k)
        have rb := hrs _ hbm
        have gb := fv_get rb.1 rb.2
        have ab := atI_bot hbg
        rw [sp] at a3 ab gb hbg hbm hrs rb w3
        have sp' := sp
        generalize hpp : pop (fv xs) x s1 = s2 at *
        have q5' : cop .ne (.lst (s2.reverse.map .int)) (.lst []) = some (!s2.isEmpty) := by
          rw [q5]
          simp
        have q6 : ∀ M : Store, (if s2 = [] then Res.ok D.non M else opt (L2.atI (s2.reverse.map D.int) (-1)) M) = Res.ok (hd1 s2) M := fun M => by
          cases s2 with
          | nil => rfl
          | cons z s2 =>
            rw [if_neg (by simp), rev_getLast z s2, atI_last] <;> rfl
        have e6 := rev_getLast p s2
        have m1 : ∀ d M, appF 0 (some (.lst (ahds (fv xs) w k))) d M = .ok .non (M.set 0 (.lst (ahds (fv xs) w k ++ [d]))) := fun d M => appF_lst _ _ _ _ (by omega)
        have m2 : ∀ d M, appF 1 (some (.lst ((csts (fv xs) w k).map .int))) d M = .ok .non (M.set 1 (.lst ((csts (fv xs) w k).map .int ++ [d]))) := fun d M => appF_lst _ _ _ _ (by simp; omega)
        have m3 : ∀ (N : Nat) d M, appF N (some (.lst (s2.reverse.map .int))) d M = .ok .non (M.set N (.lst (s2.reverse.map .int ++ [d]))) := fun N d M => appF_lst _ _ _ _ (by simp; omega)
        have m4 : ∀ d M, appF 2 (some (.lst ((wls (fv xs) w k).map .int))) d M = .ok .non (M.set 2 (.lst ((wls (fv xs) w k).map .int ++ [d]))) := fun d M => appF_lst _ _ _ _ (by simp; omega)
        clear bs hb hb1 hps hrs hbm rb hr hdn1
        simp only [tI, lI] at *
        simp [-lenF_lst, -lenF_tup, -List.map_reverse]
        rw [compL_mapP (f := D.int) (h := D.int) (p := fun i => decide (x ≤ fv xs i)) (xs := s1.reverse)]
        rotate_left
        · intro i hi
          have ri := hr1 i (by simpa using hi)
          have gi := fv_get ri.1 ri.2
          refine ⟨_, rfl, ?_, fun _ => rfl⟩
          simp [gi]
        · simp
          omega
        clear hr1
        generalize hll1 : s1.reverse.map D.int = l1 at *
        generalize hll2 : List.map D.int (s1.reverse.filter fun i => decide (x ≤ fv xs i)) = l2 at *
        generalize hll3 : s2.reverse.map D.int = l3 at *
        simp [q2, q3, q4, q5', q6, m1, m2, m3, -lenF_lst, -lenF_tup, -List.map_reverse]
        have ea : ahd (p :: s2) = hd1 s2 := by
          cases s2 <;> rfl
        rw [ea] at a3
        rw [ce] at c3
        rw [← hp] at w3
        rw [e6] at ab
        have hst : (st (fv xs) w (k + 1)).reverse.map D.int = l3 ++ [.int p] := by rw [sp', e6]
        have hpk : IsN (p + 1) (k + 1) := by
          show p + 1 = ((k + 1 : Nat) : Int)
          push_cast
          omega
        by_cases hwp : w - 1 ≤ p
        · rw [if_pos hwp] at w3
          simp [hwp, ab, gb, m4]
          refine ⟨k + 1, p + 1, b1 + m + 1, some (.int p), some (.int x), some (.int m), J ++ [.dead], hpk, by omega, bs', by rw [hdr2], ?_, ?_⟩
          · simp only [lI]
            rw [hst]
          · rw [a3, c3, w3]
            simp
        · rw [if_neg hwp] at w3
          simp [hwp]
          refine ⟨k + 1, p + 1, b1 + m + 1, some (.int p), some (.int x), some (.int m), J ++ [.dead], hpk, by omega, bs', by rw [hdr2], ?_, ?_⟩
          · simp only [lI]
            rw [hst]
          · rw [a3, c3, w3]
            simp
  · obtain ⟨ρ, rfl, k, p, b, x7, x8, x9, J, hp0, hk, hb, hys, rfl, rfl⟩ := hf
    have hp : p = (k : Int) := hp0
    have hkk : k = xs.length := by
      cases hdr : xs.drop k with
      | nil =>
        have := congrArg List.length hdr
        simp at this
        omega
      | cons x r =>
        rw [hdr] at hys
        cases hys
    subst hkk
    have hbb : b = b0 := by
      unfold bothN at hb hb0
      omega
    subst hbb
    subst hd
    simp
end Lk73

set_option Elab.async false
set_option linter.all false
set_option maxRecDepth 100000
set_option maxHeartbeats 8000000
namespace Lk73
open PySem CZ
theorem rngL_iota {p : Int} {k : Nat} (h : p = (k : Int)) : rngL 0 p = (iota k).map D.int := by
  subst h
  unfold rngL iota
  rw [List.map_map]
  have e : ((k : Int) - 0).toNat = k := by omega
  rw [e]
  apply List.map_congr_left
  intro a _
  simp
def lastD (l : List Int) : D := match l.getLast? with
  | some b => .int b
  | none => .non
theorem last_read (l : List Int) (M : Store) : (if l = [] then Res.ok D.non M else opt (L2.atI (l.map D.int) (-1)) M) = Res.ok (lastD l) M := by
  rcases List.eq_nil_or_concat l with rfl | ⟨r, b, rfl⟩
  · rfl
  · rw [List.concat_eq_append, if_neg (by simp), List.map_append]
    show opt (L2.atI (r.map D.int ++ [D.int b]) (-1)) M = _
    rw [atI_last]
    simp [lastD]
theorem ahd_near {xs : List Int} {w : Int} (hw : (xs.length : Int) ≤ w) (hw1 : 1 ≤ w) {k : Nat} (hk : k < xs.length) {p : Int} (hp : p = (k : Int)) : lastD ((iota k).filter fun j => decide (fv xs j < fv xs p)) = ahd (st (fv xs) w (k + 1)) := by
  have e := near_eq (f := fv xs) (w := w) (k := k) (inv_st hw1 k) (by omega)
  have ne := no_exp (w := w) hw hw1 hp hk
  have sp := st_step (f := fv xs) (w := w) hp
  rw [ne, hp] at sp
  rw [sp]
  unfold lastD
  rw [hp, e]
  cases pop (fv xs) (fv xs k) (st (fv xs) w k) <;> rfl
theorem iota_mem {k : Nat} {i : Int} (h : i ∈ iota k) : 0 ≤ i ∧ i < (k : Int) := by
  obtain ⟨j, hj, rfl⟩ := List.mem_map.mp h
  have := List.mem_range.mp hj
  omega
theorem iota_len (k : Nat) : (iota k).length = k := by simp [iota]
theorem a_nearest (n : Nat) {xs : List Int} {w : Int} (hw : (xs.length : Int) ≤ w) (hw1 : 1 ≤ w) (hl : xs.length ≤ 60) : Ans (Ph (n + 1)) "_law_nearest" [tI xs] (.tup (ahds (fv xs) w xs.length)) := by
  obtain ⟨L, hL⟩ : ∃ L : Int, L = (xs.length : Int) := ⟨_, rfl⟩
  generalize hd : D.tup (ahds (fv xs) w xs.length) = d
  refine ans_run lk_law_nearest rfl ?_
  have hlen := lenF_tI hL
  simp only [tI] at hlen
  simp [c_law_nearest, hlen, -lenF_tup]
  rw [rngF_int 0 L _ (by omega), Res.bind_ok]
  refine WP_bind (WP.mono (Q := fun f M => ∃ x2 x3, f = .nx [some (tI xs), some (.ref 0), x2, x3, none] ∧ M = [.lst (ahds (fv xs) w xs.length)]) (WP_for (fun ys ρ M => ∃ (k : Nat) (p : Int) (x2 x3 : Option D), IsN p k ∧ k ≤ xs.length ∧ ys = rngL p L ∧ ρ = [some (tI xs), some (.ref 0), x2, x3, none] ∧ M = [.lst (ahds (fv xs) w k)]) ⟨0, 0, none, none, rfl, by omega, rfl, rfl, rfl⟩ (fun x r ρ M hI => ?_) (fun ρ M hI => ?_)) (fun f M hf => ?_))
  · obtain ⟨k, p, x2, x3, hp0, hk, hys, rfl, rfl⟩ := hI
    have hp : p = (k : Int) := hp0
    have hlt : p < L := by
      rcases Int.lt_or_le p L with q | q
      · exact q
      · rw [rngL_nil q] at hys
        cases hys
    rw [rngL_cons hlt] at hys
    cases hys
    have a3 := ahds_succ (fv xs) w k
    have al := ahds_len (fv xs) w k
    have an := ahd_near (w := w) hw hw1 (by omega : k < xs.length) hp
    have il := iota_len k
    have ri := rngL_iota hp
    have gp := fv_get (xs := xs) (i := p) (by omega) (by omega)
    have hgi : ∀ i ∈ iota k, L2.atI (xs.map D.int) i = some (.int (fv xs i)) := fun i hi => by
      have := iota_mem hi
      exact fv_get this.1 (by omega)
    have m1 : ∀ d M, appF 0 (some (.lst (ahds (fv xs) w k))) d M = .ok .non (M.set 0 (.lst (ahds (fv xs) w k ++ [d]))) := fun d M => appF_lst _ _ _ _ (by omega)
    refine ⟨_, setT_nm, ?_⟩
    simp [b_law_nearest_1]
    rw [rngF_int 0 p _ (by omega), Res.bind_ok, ri, compL_mapP (f := D.int) (h := D.int) (p := fun j => decide (fv xs j < fv xs p))]
    rotate_left
    · intro i hi
      have gi := hgi i hi
      refine ⟨_, rfl, ?_, fun _ => rfl⟩
      simp [gi, gp]
    · simp
      omega
    have lr := last_read ((iota k).filter fun j => decide (fv xs j < fv xs p))
    have ln : cop .ne (.lst (((iota k).filter fun j => decide (fv xs j < fv xs p)).map .int)) (.lst []) = some (!((iota k).filter fun j => decide (fv xs j < fv xs p)).isEmpty) := lst_ne
    generalize ((iota k).filter fun j => decide (fv xs j < fv xs p)) = l at *
    simp [ln, lr, m1]
    exact ⟨k + 1, p + 1, by show p + 1 = ((k + 1 : Nat) : Int); push_cast; omega, by omega, rfl, by rw [ahds_succ, ← an]⟩
  · obtain ⟨k, p, x2, x3, hp0, hk, hys, rfl, rfl⟩ := hI
    have hp : p = (k : Int) := hp0
    have hge : L ≤ p := by
      rcases Int.lt_or_le p L with q | q
      · rw [rngL_cons q] at hys
        cases hys
      · exact q
    have : k = xs.length := by omega
    subst this
    exact ⟨_, _, rfl, rfl⟩
  · obtain ⟨x2, x3, rfl, rfl⟩ := hf
    simp [hd]
/-! sums -/
theorem lcs_succ (f : Int → Int) (w : Int) (n : Nat) : lcs f w (n + 1) = lcs f w n ++ [sz f w n + 2 - sz f w (n + 1)] := by simp [lcs, List.range_succ]
theorem lcs_sum (f : Int → Int) (w : Int) : ∀ n : Nat, (lcs f w n).sum = 2 * (n : Int) - sz f w n
  | 0 => by simp [lcs, sz0]
  | n + 1 => by
    rw [lcs_succ, List.sum_append, lcs_sum f w n]
    simp
    omega
theorem cst_eq {xs : List Int} {w : Int} (hw : (xs.length : Int) ≤ w) (hw1 : 1 ≤ w) {k : Nat} (hk : k < xs.length) : cst (fv xs) w k = sz (fv xs) w k + 2 - sz (fv xs) w (k + 1) := by
  have ne := no_exp (w := w) hw hw1 (p := k) rfl hk
  have e := nxt_len (f := fv xs) (w := w) (p := k) (inv_st hw1 k).dn
  have e2 : sz (fv xs) w (k + 1) = ((nxt (fv xs) w k (st (fv xs) w k)).length : Int) := rfl
  have e3 : sz (fv xs) w k = ((st (fv xs) w k).length : Int) := rfl
  unfold cst
  rw [ne] at e ⊢
  rw [e2, e3]
  omega
theorem csts_lcs {xs : List Int} {w : Int} (hw : (xs.length : Int) ≤ w) (hw1 : 1 ≤ w) : csts (fv xs) w xs.length = lcs (fv xs) w xs.length := by
  unfold csts lcs
  apply List.map_congr_left
  intro k hk
  exact cst_eq hw hw1 (List.mem_range.mp hk)
/-- the least of each stretch -/
theorem wls_get (f : Int → Int) {w : Int} (hw : 1 ≤ w) {n : Nat} (hn : w ≤ n) : wls f w n = (List.range (n - w.toNat + 1)).map fun i => f (bot (st f w (w.toNat + i))) := by
  unfold wls sts
  rw [← List.map_drop, List.map_map]
  apply List.ext_getElem
  · simp
    omega
  · intro i h1 h2
    simp
    congr 3
    omega
theorem cut_mid {α : Type} (xs : List α) {i w : Int} (h0 : 0 ≤ i) (hw : 0 ≤ w) (h : i + w ≤ xs.length) : cut xs (some i) (some (i + w)) = (xs.drop i.toNat).take w.toNat := by
  have e : ((i.toNat : Nat) : Int) = i := by omega
  have e2 : (((i + w).toNat : Nat) : Int) = i + w := by omega
  have q := HT.sIx_nat xs.length 0 i.toNat
  have q2 := HT.sIx_nat xs.length xs.length (i + w).toNat
  rw [e] at q
  rw [e2] at q2
  unfold cut
  rw [q, q2]
  have a1 : min i.toNat xs.length = i.toNat := Nat.min_eq_left (by omega)
  have a2 : min (i + w).toNat xs.length = (i + w).toNat := Nat.min_eq_left (by omega)
  rw [a1, a2]
  congr 1
  omega
theorem min_stretch {xs : List Int} {w i : Int} (hw : 1 ≤ w) (h0 : 0 ≤ i) (h : i + w ≤ xs.length) : ∃ m l, (xs.drop i.toNat).take w.toNat = m :: l ∧ l.foldl min m = fv xs (bot (st (fv xs) w (w.toNat + i.toNat))) := by
  have hne : (xs.drop i.toNat).take w.toNat ≠ [] := by
    intro z
    have := congrArg List.length z
    simp at this
    omega
  obtain ⟨m, l, hml⟩ := List.exists_cons_of_ne_nil hne
  refine ⟨m, l, hml, ?_⟩
  obtain ⟨b, hb, h1, h2, h3⟩ := bot_min (f := fv xs) hw (k := w.toNat + i.toNat) (by omega) (inv_st hw _)
  have eb : bot (st (fv xs) w (w.toNat + i.toNat)) = b := by
    unfold bot
    rw [List.getLastD_eq_getLast?, hb] <;> rfl
  rw [eb]
  have item : ∀ x ∈ m :: l, ∃ j : Int, (i ≤ j ∧ j < i + w) ∧ x = fv xs j := fun x hx => by
    rw [← hml] at hx
    obtain ⟨t, ht, rfl⟩ := List.getElem_of_mem hx
    simp at ht
    refine ⟨i + t, by omega, ?_⟩
    unfold fv
    rw [List.getElem_take, List.getElem_drop, List.getD_eq_getElem?_getD, List.getElem?_eq_getElem (by omega)]
    simp
    congr 1
    omega
  refine foldl_min (fun x hx => ?_) ?_
  · obtain ⟨j, hj, rfl⟩ := item x hx
    exact h3 j (by omega) (by omega)
  · rw [← hml]
    have hbt : (b - i).toNat < ((xs.drop i.toNat).take w.toNat).length := by
      simp
      omega
    have : fv xs b = ((xs.drop i.toNat).take w.toNat)[(b - i).toNat] := by
      unfold fv
      rw [List.getElem_take, List.getElem_drop, List.getD_eq_getElem?_getD, List.getElem?_eq_getElem (by omega)]
      simp
      congr 1
      omega
    rw [this]
    exact List.getElem_mem hbt
end Lk73

set_option Elab.async false
set_option linter.all false
set_option maxRecDepth 100000
set_option maxHeartbeats 8000000
namespace Lk73
open PySem CZ
mutual
theorem eqv_refl : ∀ (d : D) (k : Nat), d.sh k = true → PyData.eqv d.py d.py = true
  | .non, k, h => by simp [D.py, PyData.eqv]
  | .bl b, k, h => by simp [D.py, PyData.eqv]
  | .int b, k, h => by simp [D.py, PyData.eqv]
  | .str b, k, h => by simp [D.py, PyData.eqv]
  | .tup xs, k, h => by
    have := eqvs_refl xs k h
    simp [D.py, PyData.eqv, this]
  | .lst xs, k, h => by
    have := eqvs_refl xs k h
    simp [D.py, PyData.eqv, this]
  | .ref _, _, h => by cases h
  | .scr _, _, h => by cases h
  | .emp, _, h => by cases h
theorem eqvs_refl : ∀ (ds : List D) (k : Nat), D.shs k ds = true → PyData.eqvAll (D.pys ds) (D.pys ds) = true
  | _, 0, h => by simp [D.shs] at h
  | [], _ + 1, _ => by simp [D.pys, PyData.eqvAll]
  | d :: ds, k + 1, h => by
    have h' : (d.sh k && D.shs (k + 1) ds) = true := h
    rw [Bool.and_eq_true] at h'
    have a := eqv_refl d k h'.1
    have b := eqvs_refl ds (k + 1) h'.2
    simp [D.pys, PyData.eqvAll, a, b]
end
theorem shs_of : ∀ {xs : List D} {k : Nat}, (∀ x ∈ xs, x.sh k = true) → D.shs (k + 1) xs = true
  | [], _, _ => rfl
  | x :: r, k, h => by
    show (x.sh k && D.shs (k + 1) r) = true
    rw [h x (List.mem_cons_self ..), shs_of fun y hy => h y (List.mem_cons_of_mem _ hy)] <;> rfl
theorem ne_tup {xs : List D} (h : D.shs 60 xs = true) : cop .ne (.tup xs) (.tup xs) = some false := by
  have e : eqD (.tup xs) (.tup xs) = if (D.tup xs).sh 60 && (D.tup xs).sh 60 then some (PyData.eqv (D.tup xs).py (D.tup xs).py) else none := rfl
  have h2 : (D.tup xs).sh 60 = true := h
  show (eqD (.tup xs) (.tup xs)).map (!·) = _
  rw [e, h2, eqv_refl (.tup xs) 60 h] <;> rfl
theorem ne_lst {xs : List D} (h : D.shs 60 xs = true) : cop .ne (.lst xs) (.lst xs) = some false := by
  have e : eqD (.lst xs) (.lst xs) = if (D.lst xs).sh 60 && (D.lst xs).sh 60 then some (PyData.eqv (D.lst xs).py (D.lst xs).py) else none := rfl
  have h2 : (D.lst xs).sh 60 = true := h
  show (eqD (.lst xs) (.lst xs)).map (!·) = _
  rw [e, h2, eqv_refl (.lst xs) 60 h] <;> rfl
theorem ahd_plain (r : List Int) : (ahd r).sh 59 = true ∧ ∀ k, (ahd r).pl (k + 1) = true ∧ ∀ j, (ahd r).cl j = true := by
  match r with
  | [] => exact ⟨rfl, fun k => ⟨by show decide (0 < k + 1) = true; simp, fun _ => rfl⟩⟩
  | [_] => exact ⟨rfl, fun k => ⟨by show decide (0 < k + 1) = true; simp, fun _ => rfl⟩⟩
  | _ :: _ :: _ => exact ⟨rfl, fun k => ⟨by show decide (0 < k + 1) = true; simp, fun _ => rfl⟩⟩
theorem ahds_mem {f : Int → Int} {w : Int} {n : Nat} {x : D} (h : x ∈ ahds f w n) : ∃ r, x = ahd r := by
  obtain ⟨r, _, rfl⟩ := List.mem_map.mp h
  exact ⟨r, rfl⟩
theorem ahds_shs (f : Int → Int) (w : Int) (n : Nat) : D.shs 60 (ahds f w n) = true := shs_of fun x hx => by
  obtain ⟨r, rfl⟩ := ahds_mem hx
  exact (ahd_plain r).1
theorem ahds_cl (f : Int → Int) (w : Int) (n k : Nat) : D.cls k (ahds f w n) = true := cls_of fun x hx => by
  obtain ⟨r, rfl⟩ := ahds_mem hx
  exact ((ahd_plain r).2 0).2 k
theorem ahds_pl (f : Int → Int) (w : Int) (n k : Nat) : D.pls (ahds f w n) (k + 1) = true := pls_of fun x hx => by
  obtain ⟨r, rfl⟩ := ahds_mem hx
  exact ((ahd_plain r).2 k).1
theorem cut_midD (xs : List Int) {i w : Int} (h0 : 0 ≤ i) (hw : 0 ≤ w) (h : i + w ≤ xs.length) : cut (xs.map D.int) (some i) (some (i + w)) = ((xs.drop i.toNat).take w.toNat).map D.int := by
  rw [cut_mid _ h0 hw (by simpa using h), List.map_take, List.map_drop]
theorem due_eq {xs : List Int} {w : Int} (hw : 1 ≤ w) (hn : w ≤ xs.length) : (iota (xs.length - w.toNat + 1)).map (fun i => D.int (fv xs (bot (st (fv xs) w (w.toNat + i.toNat))))) = (wls (fv xs) w xs.length).map D.int := by
  rw [wls_get (fv xs) hw hn]
  unfold iota
  rw [List.map_map, List.map_map]
  apply List.map_congr_left
  intro a _
  simp
theorem call_lstack {n : Nat} {xs : List Int} {w b0 : Int} (hw1 : 1 ≤ w) (hw2 : w ≤ 1000) (hl : xs.length ≤ 60) (hb0 : bothN (fv xs) w xs.length b0) (M : Store) : callR (Ph (n + 1)) "_law_stack" 0 [tI xs, .int w] M = .ok (.lst [tS (st (fv xs) w xs.length), .tup (ahds (fv xs) w xs.length), tI (csts (fv xs) w xs.length), .int b0, tI (wls (fv xs) w xs.length)]) M := callR0 (a_law_stack n hw1 hw2 hl hb0) (cls2 (tI_cl 0 xs) rfl) (by
  have h1 := tS_cl 0 (st (fv xs) w xs.length)
  have h2 : (D.tup (ahds (fv xs) w xs.length)).cl 0 = true := ahds_cl _ _ _ _
  have h3 := tI_cl 0 (csts (fv xs) w xs.length)
  have h4 := tI_cl 0 (wls (fv xs) w xs.length)
  show (D.cl 0 _ && (D.cl 0 _ && (D.cl 0 _ && (D.cl 0 _ && (D.cl 0 _ && true))))) = true
  rw [h1, h2, h3, h4] <;> rfl)
theorem a_stack_right (n : Nat) {xs : List Int} {w : Int} (hw1 : 1 ≤ w) (hwn : w ≤ xs.length) (hl : xs.length ≤ 60) : Ans (Ph (n + 5)) "_law_is_stack_right" [tI xs, .int w] (.bl true) := by
  obtain ⟨L, hL⟩ : ∃ L : Int, L = (xs.length : Int) := ⟨_, rfl⟩
  have hn : 1 ≤ xs.length := by omega
  have hb : bothN (fv xs) L xs.length (2 * L - sz (fv xs) L xs.length) := by unfold bothN; rw [hL]
  have hb2 : bothN (fv xs) w xs.length (2 * L - sz (fv xs) w xs.length) := by unfold bothN; rw [hL]
  have c1 := call_lstack (n := n + 3) (by omega : 1 ≤ L) (by omega) hl hb
  have c2 := call_lstack (n := n + 3) hw1 (by omega) hl hb2
  have c3 : ∀ M, callR (Ph (n + 4)) "least_stack" 0 [tI xs] M = _ := fun M => callR0 (a_least_stack (n + 1) (w := L) (by omega) (by omega) hl) (cls1 (tI_cl 0 xs)) (tS_cl 0 _)
  have c4 : ∀ M, callR (Ph (n + 4)) "least_ahead" 0 [tI xs] M = .ok (.tup (ahds (fv xs) L xs.length)) M := fun M => callR0 (a_least_ahead (n + 1) (w := L) (by omega) (by omega) hl) (cls1 (tI_cl 0 xs)) (ahds_cl _ _ _ _)
  have c5 : ∀ M, callR (Ph (n + 4)) "least_costs" 0 [tI xs] M = _ := fun M => callR0 (a_least_costs (n + 1) (w := L) (by omega) (by omega) hl) (cls1 (tI_cl 0 xs)) (tI_cl 0 _)
  have c6 : ∀ M, callR (Ph (n + 4)) "_law_nearest" 0 [tI xs] M = _ := fun M => callR0 (a_nearest (n + 3) (w := L) (by omega) (by omega) hl) (cls1 (tI_cl 0 xs)) (ahds_cl _ _ _ _)
  have c7 : ∀ M, callR (Ph (n + 4)) "window_least" 0 [tI xs, .int w] M = _ := fun M => callR0 (a_window_least (n + 1) hw1 (by omega) hl) (cls2 (tI_cl 0 xs) rfl) (tI_cl 0 _)
  have c8 : ∀ M, callR (Ph (n + 4)) "window_cost" 0 [tI xs, .int w] M = _ := fun M => callR0 (a_window_cost (n + 1) hw1 (by omega) hl hn) (cls2 (tI_cl 0 xs) rfl) rfl
  have c9 : ∀ M, callR (Ph (n + 4)) "window_cost" 0 [tI xs, .int L] M = _ := fun M => callR0 (a_window_cost (n + 1) (by omega) (by omega) hl hn) (cls2 (tI_cl 0 xs) rfl) rfl
  rw [← hL] at c8 c9
  have ec := csts_lcs (xs := xs) (w := L) (by omega) (by omega)
  have es := lcs_sum (fv xs) L xs.length
  rw [← ec] at c5 es
  rw [← hL] at es
  have hd := due_eq (xs := xs) hw1 hwn
  have hlen := lenF_tI hL
  have z1 := lenF_tI (xs := (st (fv xs) L xs.length).reverse) (L := sz (fv xs) L xs.length) (by simp [sz])
  have z2 := lenF_tI (xs := (st (fv xs) w xs.length).reverse) (L := sz (fv xs) w xs.length) (by simp [sz])
  have n1 := ne_tup (ahds_shs (fv xs) L xs.length)
  have n2 := ne_tup (xs := (wls (fv xs) w xs.length).map D.int) (shs_ints 59 _)
  have l1 : (st (fv xs) L xs.length).reverse.length ≤ 60 := by
    have := st_len (fv xs) L xs.length
    simp
    omega
  have l2 := wls_len (fv xs) w xs.length
  have l3 := csts_len (fv xs) L xs.length
  have l4 := ahds_len (fv xs) L xs.length
  have p1 := fun k => tIm_plB k (st (fv xs) L xs.length).reverse (by omega)
  have p2 : ∀ k, (D.tup (ahds (fv xs) L xs.length)).pl (k + 2) = true := fun k => pl_t (by omega) (ahds_pl _ _ _ _)
  have p3 := fun k => tIm_plB k (csts (fv xs) L xs.length) (by omega)
  have p4 := fun k => tIm_plB k (wls (fv xs) w xs.length) (by omega)
  have m2 : bop .mul (.int 2) (.int L) = some (.int (2 * L)) := bop_mulS (by decide) (by omega)
  have hri : rngL 0 (L - w + 1) = (iota (xs.length - w.toNat + 1)).map D.int := rngL_iota (by omega)
  have hit : ∀ i ∈ iota (xs.length - w.toNat + 1), 0 ≤ i ∧ i + w ≤ xs.length := fun i hi => by
    have := iota_mem hi
    omega
  simp only [tS, tI] at *
  generalize hA : (ahds (fv xs) L xs.length) = A at *
  generalize hC : (csts (fv xs) L xs.length) = Cs' at *
  generalize hS : (st (fv xs) L xs.length).reverse = S1 at *
  generalize hW : (wls (fv xs) w xs.length) = W1 at *
  have s1 : ∀ M, callR (Ph (n + 4)) "_law_same" 0 [.tup [.tup (S1.map D.int), .tup A, .tup (Cs'.map D.int), .tup (S1.map D.int), .tup A], .tup [.tup (S1.map D.int), .tup A, .tup (Cs'.map D.int), .tup (S1.map D.int), .tup A]] M = _ := fun M => call_same rfl (pl_t (k := n + 3 - 1) (by simp) (pls_c (p1 _) (pls_c (p2 _) (pls_c (p3 _) (pls_c (p1 _) (pls_c (p2 _) rfl)))))) M
  have s2 : ∀ M, callR (Ph (n + 4)) "_law_same" 0 [.tup (Cs'.map D.int), .tup (Cs'.map D.int)] M = _ := fun M => call_same rfl (p3 _) M
  have s3 : ∀ (z : Int) M, callR (Ph (n + 4)) "_law_same" 0 [.tup [.tup (W1.map D.int), .tup (W1.map D.int), .int z, .int z], .tup [.tup (W1.map D.int), .tup (W1.map D.int), .int z, .int z]] M = _ := fun z M => call_same rfl (pl_t (k := n + 3 - 1) (by simp) (pls_c (p4 _) (pls_c (p4 _) (pls_c (int_pl _ _) (pls_c (int_pl _ _) rfl))))) M
  have s4 : ∀ (z : Int) M, callR (Ph (n + 4)) "_law_same" 0 [.int z, .int z] M = _ := fun z M => call_same rfl (int_pl _ _) M
  refine ans_run lk_law_is_stack_right rfl ?_
  simp [c_law_is_stack_right, hlen, c1, c2, c3, c4, c5, c6, s1, s2, n1, es, m2, z1, -lenF_tup, -List.map_reverse]
  rw [rngF_int 0 (L - w + 1) _ (by omega), Res.bind_ok, hri, compL_mapF (f := D.int) (h := fun i => D.int (fv xs (bot (st (fv xs) w (w.toNat + i.toNat)))))]
  rotate_left
  · intro i hi
    obtain ⟨h0, h1⟩ := hit i hi
    obtain ⟨m, l, e1, e2⟩ := min_stretch hw1 h0 h1
    have e3 := cut_midD xs h0 (by omega : 0 ≤ w) h1
    have e4 := minF_tup m l
    rw [e1] at e3
    rw [e2] at e4
    refine ⟨_, rfl, rfl, ?_⟩
    generalize fv xs (bot (st (fv xs) w (w.toNat + i.toNat))) = q at *
    simp only [List.map_cons] at *
    simp [e3, e4]
  · simp [iota_len]
    omega
  rw [hd]
  simp [c7, c8, c9, s3, s4, n2, es, m2, z2, -lenF_tup, -List.map_reverse]
end Lk73

set_option Elab.async false
set_option linter.all false
set_option maxRecDepth 100000
set_option maxHeartbeats 8000000
namespace Lk73
open PySem CZ
theorem a_mcost (n : Nat) {s d : Int} (h0 : 0 ≤ d) (h : d ≤ s) : Ans (Ph (n + 1)) "many_cost" [.int s, .int d] (.int (1 + d)) := by
  refine ans_run lk_many_cost rfl ?_
  simp [c_many_cost]
  omega
theorem a_mcostN (n : Nat) (s : Int) : Ans (Ph (n + 1)) "many_cost" [.int s, .non] (.int 1) := by
  refine ans_run lk_many_cost rfl ?_
  simp [c_many_cost]
theorem a_mafter (n : Nat) {s d : Int} (h0 : 0 ≤ d) (h : d ≤ s) : Ans (Ph (n + 1)) "many_after" [.int s, .int d] (.int (s - d)) := by
  refine ans_run lk_many_after rfl ?_
  simp [c_many_after]
  omega
theorem a_mafterN (n : Nat) (s : Int) : Ans (Ph (n + 1)) "many_after" [.int s, .non] (.int (s + 1)) := by
  refine ans_run lk_many_after rfl ?_
  simp [c_many_after]
def Vd : Int → List Int → Prop
  | _, [] => True
  | s, c :: r => 1 ≤ c ∧ c - 1 ≤ s ∧ Vd (s - (c - 1) + 1) r
def dOf (cs : List Int) : List D := cs.flatMap fun c => [.int (c - 1), .non]
def uOf (cs : List Int) : List Int := cs.flatMap fun c => [c, 1]
theorem uOf_len : ∀ cs, (uOf cs).length = 2 * cs.length
  | [] => rfl
  | c :: r => by
    have := uOf_len r
    unfold uOf at *
    simp only [List.flatMap_cons, List.length_append, List.length_cons, List.length_nil, this]
    omega
theorem dOf_len : ∀ cs, (dOf cs).length = 2 * cs.length
  | [] => rfl
  | c :: r => by
    have := dOf_len r
    unfold dOf at *
    simp only [List.flatMap_cons, List.length_append, List.length_cons, List.length_nil, this]
    omega
theorem uOf_sum : ∀ cs : List Int, (uOf cs).sum = cs.sum + cs.length
  | [] => rfl
  | c :: r => by
    have := uOf_sum r
    unfold uOf at *
    simp only [List.flatMap_cons, List.sum_append, List.sum_cons, List.sum_nil, List.length_cons, this]
    push_cast
    omega
theorem uOf_app (a b : List Int) : uOf (a ++ b) = uOf a ++ uOf b := by simp [uOf]
theorem dOf_app (a b : List Int) : dOf (a ++ b) = dOf a ++ dOf b := by simp [dOf]
theorem a_mrun (n : Nat) {cs : List Int} (hv : Vd 0 cs) (hl : cs.length ≤ 60) : Ans (Ph (n + 2)) "many_run" [.int 0, .tup (dOf cs)] (tI (uOf cs)) := by
  generalize hd : tI (uOf cs) = d
  refine ans_run lk_many_run rfl ?_
  simp [c_many_run]
  refine WP_bind (WP.mono (Q := fun f M => ∃ x2 x3, f = .nx [some (.int 0), some (.tup (dOf cs)), x2, x3, some (.ref 0)] ∧ M = [.lst ((uOf cs).map .int)]) (WP_for (fun ys ρ M => ∃ (s : Int) (x2 : Option D) (dn r : List Int), cs = dn ++ r ∧ ρ = [some (.int 0), some (.tup (dOf cs)), x2, some (.int s), some (.ref 0)] ∧
    ((Vd s r ∧ ys = dOf r ∧ M = [.lst ((uOf dn).map .int)]) ∨ (∃ c r', r = c :: r' ∧ Vd (s + 1) r' ∧ ys = .non :: dOf r' ∧ M = [.lst ((uOf dn ++ [c]).map .int)]))) ⟨0, none, [], cs, rfl, rfl, .inl ⟨hv, rfl, rfl⟩⟩ (fun y r ρ M hI => ?_) (fun ρ M hI => ?_)) (fun f M hf => ?_))
  · obtain ⟨s, x2, dn, r0, hcs, rfl, h⟩ := hI
    have hlen : dn.length + r0.length ≤ 60 := by
      rw [hcs, List.length_append] at hl
      exact hl
    have ul := uOf_len dn
    refine ⟨_, setT_nm, ?_⟩
    rcases h with ⟨hV, hy, rfl⟩ | ⟨c, r', rfl, hV, hy, rfl⟩
    · cases r0 with
      | nil => cases hy
      | cons c r' =>
        obtain ⟨v1, v2, v3⟩ := hV
        have hy' : y :: r = .int (c - 1) :: .non :: dOf r' := hy
        cases hy'
        have c1 : ∀ M, callR (Ph (n + 1)) "many_cost" 0 [.int s, .int (c - 1)] M = .ok (.int c) M := fun M => by
          have := callR0 (M := M) (a_mcost n (s := s) (d := c - 1) (by omega) v2) rfl rfl
          rwa [show 1 + (c - 1) = c by omega] at this
        have c2 : ∀ M, callR (Ph (n + 1)) "many_after" 0 [.int s, .int (c - 1)] M = _ := fun M => callR0 (a_mafter n (s := s) (d := c - 1) (by omega) v2) rfl rfl
        have m1 : ∀ d M, appF 0 (some (.lst ((uOf dn).map .int))) d M = .ok .non (M.set 0 (.lst ((uOf dn).map .int ++ [d]))) := fun d M => appF_lst _ _ _ _ (by simp; omega)
        simp [b_many_run_1, c1, c2, m1]
        refine ⟨_, _, dn, c :: r', hcs, ⟨rfl, rfl⟩, .inr ⟨c, r', rfl, v3, rfl, by simp⟩⟩
    · cases hy
      have c1 : ∀ M, callR (Ph (n + 1)) "many_cost" 0 [.int s, .non] M = _ := fun M => callR0 (a_mcostN n s) rfl rfl
      have c2 : ∀ M, callR (Ph (n + 1)) "many_after" 0 [.int s, .non] M = _ := fun M => callR0 (a_mafterN n s) rfl rfl
      have m1 : ∀ d M, appF 0 (some (.lst ((uOf dn ++ [c]).map .int))) d M = .ok .non (M.set 0 (.lst ((uOf dn ++ [c]).map .int ++ [d]))) := fun d M => appF_lst _ _ _ _ (by simp; omega)
      have e : (uOf dn ++ [c]).map D.int ++ [.int 1] = (uOf (dn ++ [c])).map D.int := by rw [uOf_app]; simp [uOf]
      generalize (uOf dn ++ [c]).map D.int = l at *
      simp [b_many_run_1, c1, c2, m1, e]
      refine ⟨_, _, dn ++ [c], r', by rw [hcs]; simp, ⟨rfl, rfl⟩, .inl ⟨hV, rfl, rfl⟩⟩
  · obtain ⟨s, x2, dn, r0, hcs, rfl, h⟩ := hI
    rcases h with ⟨hV, hy, rfl⟩ | ⟨c, r', rfl, hV, hy, rfl⟩
    · cases r0 with
      | nil =>
        rw [List.append_nil] at hcs
        subst hcs
        exact ⟨_, _, rfl, rfl⟩
      | cons c r' => cases hy
    · cases hy
  · obtain ⟨x2, x3, rfl, rfl⟩ := hf
    subst hd
    simp
theorem lcs_vd {xs : List Int} {w : Int} (hw : (xs.length : Int) ≤ w) (hw1 : 1 ≤ w) : ∀ (m k : Nat), k + m = xs.length → Vd (sz (fv xs) w k) ((List.range m).map fun i => sz (fv xs) w (k + i) + 2 - sz (fv xs) w (k + i + 1))
  | 0, k, _ => trivial
  | m + 1, k, h => by
    have ce := cst_eq (xs := xs) hw hw1 (k := k) (by omega)
    have ne := no_exp (w := w) hw hw1 (p := k) rfl (by omega : k < xs.length)
    have pl := (pop_drop (f := fv xs) (x := fv xs k) (inv_st (f := fv xs) hw1 k).dn).2
    have h1 : 1 ≤ cst (fv xs) w k ∧ cst (fv xs) w k - 1 ≤ sz (fv xs) w k := by
      unfold cst sz
      rw [ne]
      omega
    rw [List.range_succ_eq_map, List.map_cons, List.map_map]
    have ih := lcs_vd hw hw1 m (k + 1) (by omega)
    refine ⟨by show 1 ≤ sz (fv xs) w (k + 0) + 2 - sz (fv xs) w (k + 0 + 1); rw [Nat.add_zero]; omega, by show sz (fv xs) w (k + 0) + 2 - sz (fv xs) w (k + 0 + 1) - 1 ≤ _; rw [Nat.add_zero]; omega, ?_⟩
    have e : sz (fv xs) w k - (sz (fv xs) w (k + 0) + 2 - sz (fv xs) w (k + 0 + 1) - 1) + 1 = sz (fv xs) w (k + 1) := by
      rw [Nat.add_zero]
      omega
    rw [e]
    have e2 : ((fun i => sz (fv xs) w (k + i) + 2 - sz (fv xs) w (k + i + 1)) ∘ Nat.succ) = fun i => sz (fv xs) w (k + 1 + i) + 2 - sz (fv xs) w (k + 1 + i + 1) := by
      funext i
      show sz (fv xs) w (k + (i + 1)) + 2 - sz (fv xs) w (k + (i + 1) + 1) = _
      rw [show k + (i + 1) = k + 1 + i by omega]
    rw [e2]
    exact ih
theorem lcs_ok {xs : List Int} {w : Int} (hw : (xs.length : Int) ≤ w) (hw1 : 1 ≤ w) : Vd 0 (lcs (fv xs) w xs.length) := by
  have := lcs_vd (xs := xs) hw hw1 xs.length 0 (by omega)
  unfold lcs
  rw [sz0] at this
  simpa using this
theorem ext_loop {n : Nat} (j : Nat) (b : S) (bl : Int → List D) (mk : List D → Store) (hb : ∀ (c : Int), (bl c).length = 2) {P : Env' → Prop}
    (step : ∀ (c : Int) (ρ : Env') (acc : List D), P ρ → acc.length < 1000 → ∃ ρ', setT (.nm j) (.int c) ρ = some ρ' ∧ ∃ ρ1, ex (Ph n) b ρ' (mk acc) = .ok (.nx ρ1) (mk (acc ++ bl c)) ∧ P ρ1) : ∀ (r : List Int) (ρ : Env') (acc : List D), P ρ → acc.length + 2 * r.length < 1000 → ∃ ρ1, forL (ex (Ph n) b) (.nm j) (r.map .int) ρ (mk acc) = .ok (.nx ρ1) (mk (acc ++ r.flatMap bl)) ∧ P ρ1
  | [], ρ, acc, hp, _ => ⟨ρ, by simp [forL], hp⟩
  | c :: r, ρ, acc, hp, hz => by
    simp only [List.length_cons] at hz
    obtain ⟨ρ', h1, ρ1, h2, h3⟩ := step c ρ acc hp (by omega)
    obtain ⟨ρ2, h4, h5⟩ := ext_loop j b bl mk hb step r ρ1 (acc ++ bl c) h3 (by rw [List.length_append, hb]; omega)
    refine ⟨ρ2, ?_, h5⟩
    rw [List.map_cons, forL, h1]
    show (ex (Ph n) b ρ' (mk acc)).bind _ = _
    rw [h2, Res.bind_ok]
    show forL (ex (Ph n) b) (.nm j) (r.map .int) ρ1 (mk (acc ++ bl c)) = _
    rw [h4]
    simp
theorem extF_ok (i : Nat) (l ys : List D) (M : Store) (h : l.length + ys.length ≤ 1000000) : extF i (some (.lst l)) (.lst ys) M = .ok .non (M.set i (.lst (l ++ ys))) := extF_lst i l ys M h
theorem a_takings (n : Nat) {xs : List Int} (hn : 1 ≤ xs.length) (hl : xs.length ≤ 60) : Ans (Ph (n + 5)) "_law_are_takings_right" [tI xs] (.bl true) := by
  obtain ⟨L, hL⟩ : ∃ L : Int, L = (xs.length : Int) := ⟨_, rfl⟩
  have hlen := lenF_tI hL
  have c1 : ∀ M, callR (Ph (n + 4)) "least_costs" 0 [tI xs] M = _ := fun M => callR0 (a_least_costs (n + 1) (w := L) (by omega) (by omega) hl) (cls1 (tI_cl 0 xs)) (tI_cl 0 _)
  have hv := lcs_ok (xs := xs) (w := L) (by omega) (by omega)
  have ec := csts_lcs (xs := xs) (w := L) (by omega) (by omega)
  have hcl : (lcs (fv xs) L xs.length).length = xs.length := by simp [lcs]
  generalize hcs : lcs (fv xs) L xs.length = cs at *
  have c2 : ∀ M, callR (Ph (n + 4)) "many_run" 0 [.int 0, .tup (dOf cs)] M = _ := fun M => callR0 (a_mrun (n + 2) hv (by omega)) (by
    have : D.cls 0 (dOf cs) = true := cls_of fun x hx => by
      obtain ⟨c, _, hc⟩ := List.mem_flatMap.mp hx
      simp at hc
      rcases hc with rfl | rfl <;> rfl
    show (true && ((D.cls 0 (dOf cs)) && true)) = true
    rw [this] <;> rfl) (tI_cl 0 _)
  have ul := uOf_len cs
  have s1 : ∀ M, callR (Ph (n + 4)) "_law_same" 0 [.tup ((uOf cs).map .int), .tup ((uOf cs).map .int)] M = _ := fun M => call_same rfl (tIm_plB _ _ (by omega)) M
  have us := uOf_sum cs
  refine ans_run lk_law_are_takings_right rfl ?_
  simp only [tI] at *
  obtain ⟨ρ1, e1, h1⟩ := ext_loop (n := n + 4) 1 b_law_are_takings_right_1 (fun c => [.int (c - 1), .non]) (fun a => [.lst a]) (fun c => rfl) (P := fun ρ => ∃ x, ρ = [some (.tup (xs.map .int)), x, none, none, some (.tup (cs.map .int)), some (.ref 0)]) (fun c ρ acc hp hz => by
    obtain ⟨x, rfl⟩ := hp
    refine ⟨_, setT_nm, ?_⟩
    simp [b_law_are_takings_right_1, extF_ok 0 acc [.int (c - 1), .non] _ (by simp; omega)]) cs [some (.tup (xs.map .int)), none, none, none, some (.tup (cs.map .int)), some (.ref 0)] [] ⟨_, rfl⟩ (by simp; omega)
  obtain ⟨x1, rfl⟩ := h1
  have ed : [] ++ cs.flatMap (fun c => [D.int (c - 1), .non]) = dOf cs := rfl
  rw [ed] at e1
  obtain ⟨ρ2, e2, h2⟩ := ext_loop (n := n + 4) 1 b_law_are_takings_right_2 (fun c => [.int c, .int 1]) (fun a => [.lst (dOf cs), .lst a]) (fun c => rfl) (P := fun ρ => ∃ x, ρ = [some (.tup (xs.map .int)), x, some (.tup ((uOf cs).map .int)), some (.ref 1), some (.tup (cs.map .int)), some (.ref 0)]) (fun c ρ acc hp hz => by
    obtain ⟨x, rfl⟩ := hp
    refine ⟨_, setT_nm, ?_⟩
    simp [b_law_are_takings_right_2, extF_ok 1 acc [.int c, .int 1] _ (by simp; omega)]) cs [some (.tup (xs.map .int)), x1, some (.tup ((uOf cs).map .int)), some (.ref 1), some (.tup (cs.map .int)), some (.ref 0)] [] ⟨_, rfl⟩ (by simp; omega)
  obtain ⟨x2, rfl⟩ := h2
  have eu : [] ++ cs.flatMap (fun c => [D.int c, .int 1]) = (uOf cs).map D.int := by
    unfold uOf
    rw [List.map_flatMap]
    rfl
  rw [eu] at e2
  rw [hcl, ← hL] at us
  simp [c_law_are_takings_right, c1, e1, c2, e2, s1, us, hlen, -lenF_tup]
end Lk73

set_option Elab.async false
set_option linter.all false
set_option maxRecDepth 100000
set_option maxHeartbeats 8000000
namespace Lk73
open PySem CZ
theorem eqq_tup_nil (ns : List Int) : cop .eq (.tup (ns.map .int)) (.tup []) = some ns.isEmpty := by
  have := eq_tup_nil ns
  have e : cop .ne (.tup (ns.map .int)) (.tup []) = (eqD (.tup (ns.map .int)) (.tup [])).map (!·) := rfl
  show eqD (.tup (ns.map .int)) (.tup []) = _
  rw [e] at this
  cases h : eqD (.tup (ns.map .int)) (.tup []) with
  | none => rw [h] at this; cases this
  | some b =>
    rw [h] at this
    have := Option.some.inj this
    congr 1
    cases b <;> cases q : ns.isEmpty <;> simp_all
def trn (f b : List Int) : List Int × List Int := if f = [] then (b.reverse, []) else (f, b)
abbrev tD (f b : List Int) : D := .tup [tI f, tI b]
theorem tD_cl (k : Nat) (f b : List Int) : (tD f b).cl k = true := by
  show (D.cl k (tI f) && (D.cl k (tI b) && true)) = true
  rw [tI_cl, tI_cl] <;> rfl
theorem a_qput (n : Nat) (f b : List Int) (x : Int) (hl : b.length ≤ 1000) : Ans (Ph (n + 1)) "queue_put" [tD f b, .int x] (tD f (b ++ [x])) := by
  refine ans_run lk_queue_put rfl ?_
  have c : bop .add (tI b) (.tup [.int x]) = some (.tup (b.map D.int ++ [.int x])) := bop_cat (by simp; omega)
  simp only [tI] at *
  simp [c_queue_put, c]
theorem a_turn (n : Nat) {f b : List Int} (h : f ≠ [] ∨ b ≠ []) : Ans (Ph (n + 1)) "turned_over" [tD f b] (tD (trn f b).1 (trn f b).2) := by
  refine ans_run lk_turned_over rfl ?_
  have h1 := eq_tup_nil f
  have h2 := eqq_tup_nil b
  unfold trn
  by_cases hf : f = []
  · have hb : b.isEmpty = false := by
      rcases h with h | h
      · exact absurd hf h
      · simpa using h
    rw [hb] at h2
    subst hf
    simp at h1
    simp only [tI, tD] at *
    simp [c_turned_over, h1, h2]
  · have hf' : f.isEmpty = false := by simpa using hf
    rw [hf'] at h1
    simp only [tI, tD] at *
    simp [c_turned_over, h1, hf]
theorem call_turn {n : Nat} {f b : List Int} (h : f ≠ [] ∨ b ≠ []) (M : Store) : callR (Ph (n + 1)) "turned_over" 0 [tD f b] M = .ok (tD (trn f b).1 (trn f b).2) M := callR0 (a_turn n h) (cls1 (tD_cl 0 f b)) (tD_cl 0 _ _)
theorem trn_some {f b : List Int} {y : Int} {r : List Int} (h : f.reverse ++ b = y :: r) : ∃ l, (trn f b).1 = l ++ [y] ∧ l.reverse ++ (trn f b).2 = r ∧ (f ≠ [] ∨ b ≠ []) := by
  unfold trn
  by_cases hf : f = []
  · subst hf
    rw [if_pos rfl]
    simp at h
    subst h
    exact ⟨r.reverse, by simp, by simp, .inr (by simp)⟩
  · rw [if_neg hf]
    rcases List.eq_nil_or_concat f with e | ⟨l, c, rfl⟩
    · exact absurd e hf
    · rw [List.concat_eq_append] at *
      simp at h
      obtain ⟨rfl, h⟩ := h
      exact ⟨l, rfl, h, .inl hf⟩
theorem a_qtake (n : Nat) {f b l : List Int} {y : Int} (h : f ≠ [] ∨ b ≠ []) (h1 : (trn f b).1 = l ++ [y]) : Ans (Ph (n + 2)) "queue_take" [tD f b] (.tup [.int y, tD l (trn f b).2]) := by
  refine ans_run lk_queue_take rfl ?_
  have c := call_turn (n := n) h
  rw [h1] at c
  have e1 := atI_last (l.map D.int) (.int y)
  have e2 := cut_init (l.map D.int) (.int y)
  simp only [tI, tD, List.map_append, List.map_cons, List.map_nil] at *
  simp [c_queue_take, c, e1, e2]
theorem a_qcost (n : Nat) {f b : List Int} (h : f ≠ [] ∨ b ≠ []) {z z1 : Int} (hz : z = b.length) (hz1 : z1 = (trn f b).2.length) : Ans (Ph (n + 2)) "queue_cost" [tD f b, .str "take"] (.int (1 + z - z1)) := by
  refine ans_run lk_queue_cost rfl ?_
  have c := call_turn (n := n) h
  have l1 := lenF_tI hz
  have l2 := lenF_tI hz1
  have e : cop .eq (.str (Str.ofString "take")) (.str (Str.ofString "put")) = some false := by decide +kernel
  simp only [tI, tD] at *
  simp [c_queue_cost, c, l1, l2, e, -lenF_tup, -cop_eqs]
theorem a_qpot (n : Nat) {f b : List Int} {z : Int} (hz : z = b.length) : Ans (Ph (n + 1)) "queue_potential" [tD f b] (.int z) := by
  refine ans_run lk_queue_potential rfl ?_
  have l1 := lenF_tI hz
  simp only [tI, tD] at *
  simp [c_queue_potential, l1, -lenF_tup]
structure QS where
  f : List Int
  b : List Int
  t : List Int
  c : List Int
def q0 : QS := ⟨[], [], [], []⟩
def qs (s : QS) : Option Int → QS
  | some x => ⟨s.f, s.b ++ [x], s.t, s.c ++ [1]⟩
  | none => ⟨(trn s.f s.b).1.dropLast, (trn s.f s.b).2, s.t ++ [(trn s.f s.b).1.getLastD 0], s.c ++ [1 + (s.b.length : Int) - ((trn s.f s.b).2.length : Int)]⟩
def Val : QS → List (Option Int) → Prop
  | _, [] => True
  | s, some x :: r => Val (qs s (some x)) r
  | s, none :: r => (s.f ≠ [] ∨ s.b ≠ []) ∧ Val (qs s none) r
theorem Val_app : ∀ {a b : List (Option Int)} {s : QS}, Val s a → Val (a.foldl qs s) b → Val s (a ++ b)
  | [], _, _, _, h => h
  | some x :: a, b, s, h, h2 => by
    show Val (qs s (some x)) (a ++ b)
    exact Val_app h h2
  | none :: a, b, s, h, h2 => ⟨h.1, Val_app h.2 h2⟩
def oD : Option Int → D
  | some x => .int x
  | none => .non
theorem trn_ne {f b : List Int} (h : f ≠ [] ∨ b ≠ []) : ∃ l y, (trn f b).1 = l ++ [y] := by
  unfold trn
  split
  · rename_i q
    rcases h with h | h
    · exact absurd q h
    · rcases List.eq_nil_or_concat b.reverse with e | ⟨l, c, e⟩
      · exact absurd (List.reverse_eq_nil_iff.mp e) h
      · exact ⟨l, c, by rw [e, List.concat_eq_append]⟩
  · rename_i q
    rcases List.eq_nil_or_concat f with e | ⟨l, c, e⟩
    · exact absurd e q
    · exact ⟨l, c, by rw [e, List.concat_eq_append]⟩
theorem trn_len (f b : List Int) : (trn f b).1.length + (trn f b).2.length = f.length + b.length := by
  unfold trn
  split
  · rename_i q
    subst q
    simp
  · rfl
theorem qrun_loop {n : Nat} (dd : D) : ∀ (ds : List (Option Int)) (s : QS) (x2 x5 : Option D), Val s ds → s.f.length + s.b.length + s.t.length + s.c.length + 2 * ds.length ≤ 1000 → ∃ x2' x5', forL (ex (Ph (n + 2)) b_queue_run_1) (.nm 2) (ds.map oD) [some (tD s.f s.b), some dd, x2, some (.ref 0), some (.ref 1), x5] [.lst (s.t.map .int), .lst (s.c.map .int)] =
    .ok (.nx [some (tD (ds.foldl qs s).f (ds.foldl qs s).b), some dd, x2', some (.ref 0), some (.ref 1), x5']) [.lst ((ds.foldl qs s).t.map .int), .lst ((ds.foldl qs s).c.map .int)]
  | [], s, x2, x5, _, _ => ⟨x2, x5, rfl⟩
  | some x :: ds, s, x2, x5, hv, hz => by
    simp only [List.length_cons] at hz
    have c1 : ∀ M, callR (Ph (n + 2)) "queue_put" 0 [tD s.f s.b, .int x] M = _ := fun M => callR0 (a_qput (n + 1) s.f s.b x (by omega)) (cls2 (tD_cl 0 _ _) rfl) (tD_cl 0 _ _)
    have m1 : ∀ d M, appF 1 (some (.lst (s.c.map .int))) d M = .ok .non (M.set 1 (.lst (s.c.map .int ++ [d]))) := fun d M => appF_lst _ _ _ _ (by simp; omega)
    obtain ⟨a, b, h⟩ := qrun_loop (n := n) dd ds (qs s (some x)) (some (.int x)) x5 hv (by simp only [qs, List.length_append, List.length_cons, List.length_nil]; omega)
    refine ⟨a, b, ?_⟩
    rw [List.map_cons, forL, setT_nm]
    have e : ex (Ph (n + 2)) b_queue_run_1 ([some (tD s.f s.b), some dd, x2, some (.ref 0), some (.ref 1), x5].set 2 (some (oD (some x)))) [.lst (s.t.map .int), .lst (s.c.map .int)] = .ok (.nx [some (tD (qs s (some x)).f (qs s (some x)).b), some dd, some (.int x), some (.ref 0), some (.ref 1), x5]) [.lst ((qs s (some x)).t.map .int), .lst ((qs s (some x)).c.map .int)] := by
      simp only [tI, tD, oD, qs] at *
      simp [b_queue_run_1, c1, m1]
    show (ex (Ph (n + 2)) b_queue_run_1 _ _).bind _ = _
    rw [e, Res.bind_ok]
    exact h
  | none :: ds, s, x2, x5, hv, hz => by
    simp only [List.length_cons] at hz
    obtain ⟨hne, hv⟩ := hv
    obtain ⟨l, y, hly⟩ := trn_ne hne
    have tl := trn_len s.f s.b
    have c1 : ∀ M, callR (Ph (n + 2)) "queue_take" 0 [tD s.f s.b] M = _ := fun M => callR0 (a_qtake n hne hly) (cls1 (tD_cl 0 _ _)) (by
      show (true && (D.cl 0 (tD _ _) && true)) = true
      rw [tD_cl] <;> rfl)
    obtain ⟨z, hz0⟩ : ∃ z : Int, z = 1 + (s.b.length : Int) - ((trn s.f s.b).2.length : Int) := ⟨_, rfl⟩
    have c2 : ∀ M, callR (Ph (n + 2)) "queue_cost" 0 [tD s.f s.b, .str "take"] M = .ok (.int z) M := fun M => by
      rw [hz0]
      exact callR0 (a_qcost n hne rfl rfl) (cls2 (tD_cl 0 _ _) rfl) rfl
    have m1 : ∀ d M, appF 1 (some (.lst (s.c.map .int))) d M = .ok .non (M.set 1 (.lst (s.c.map .int ++ [d]))) := fun d M => appF_lst _ _ _ _ (by simp; omega)
    have m2 : ∀ d M, appF 0 (some (.lst (s.t.map .int))) d M = .ok .non (M.set 0 (.lst (s.t.map .int ++ [d]))) := fun d M => appF_lst _ _ _ _ (by simp; omega)
    have eq : qs s none = ⟨l, (trn s.f s.b).2, s.t ++ [y], s.c ++ [z]⟩ := by
      unfold qs
      rw [hly, hz0]
      simp
    obtain ⟨a, b, h⟩ := qrun_loop (n := n) dd ds (qs s none) (some .non) (some (.int y)) hv (by
      rw [eq]
      have := congrArg List.length hly
      simp at this
      simp only [List.length_append, List.length_cons, List.length_nil]
      omega)
    refine ⟨a, b, ?_⟩
    rw [List.map_cons, forL, setT_nm]
    have e : ex (Ph (n + 2)) b_queue_run_1 ([some (tD s.f s.b), some dd, x2, some (.ref 0), some (.ref 1), x5].set 2 (some (oD none))) [.lst (s.t.map .int), .lst (s.c.map .int)] = .ok (.nx [some (tD (qs s none).f (qs s none).b), some dd, some .non, some (.ref 0), some (.ref 1), some (.int y)]) [.lst ((qs s none).t.map .int), .lst ((qs s none).c.map .int)] := by
      rw [eq]
      generalize (trn s.f s.b).2 = b1 at *
      simp only [tI, tD, oD] at *
      simp [b_queue_run_1, c1, c2, m1, m2]
    show (ex (Ph (n + 2)) b_queue_run_1 _ _).bind _ = _
    rw [e, Res.bind_ok]
    exact h
theorem a_qrun (n : Nat) {ds : List (Option Int)} (hv : Val q0 ds) (hl : ds.length ≤ 200) : Ans (Ph (n + 3)) "queue_run" [tD [] [], .tup (ds.map oD)] (.tup [tI (ds.foldl qs q0).t, tI (ds.foldl qs q0).c]) := by
  obtain ⟨a, b, h⟩ := qrun_loop (n := n) (.tup (ds.map oD)) ds q0 none none hv (by simp [q0]; omega)
  refine ans_run lk_queue_run rfl ?_
  have h' : forL (ex (Ph (n + 2)) b_queue_run_1) (.nm 2) (ds.map oD) [some (.tup [.tup [], .tup []]), some (.tup (ds.map oD)), none, some (.ref 0), some (.ref 1), none] [.lst [], .lst []] = _ := h
  simp only [tI, tD] at *
  simp [c_queue_run, h']
end Lk73

set_option Elab.async false
set_option linter.all false
set_option maxRecDepth 100000
set_option maxHeartbeats 8000000
namespace Lk73
open PySem CZ
@[simp] theorem partC_blt (b : BI) (r : Bool) (es : Cs) (i : Int) : partC (.blt b r es) (.int i) = some (some i) := Eq.trans rfl rfl
/-- the deeds of the queue up to the k-th place -/
def dq (f : Int → Int) (w : Int) : Nat → List (Option Int)
  | 0 => []
  | k + 1 => dq f w k ++ (some (f k) :: if w - 1 ≤ k then [none] else [])
def Sq (f : Int → Int) (w : Int) (k : Nat) : QS := (dq f w k).foldl qs q0
def tk (w : Int) (k : Nat) : Nat := ((k : Int) + 1 - w).toNat
theorem Sq_succ (f : Int → Int) (w : Int) (k : Nat) : Sq f w (k + 1) = if w - 1 ≤ k then qs (qs (Sq f w k) (some (f k))) none else qs (Sq f w k) (some (f k)) := by
  unfold Sq
  rw [dq, List.foldl_append]
  split <;> rfl
structure QI (xs : List Int) (w : Int) (k : Nat) : Prop where
  val : Val q0 (dq (fv xs) w k)
  con : (Sq (fv xs) w k).f.reverse ++ (Sq (fv xs) w k).b = (xs.take k).drop (tk w k)
  tak : (Sq (fv xs) w k).t = xs.take (tk w k)
  len : (Sq (fv xs) w k).c.length = (dq (fv xs) w k).length
  dln : (dq (fv xs) w k).length = k + tk w k
  sum : (Sq (fv xs) w k).c.sum + ((Sq (fv xs) w k).b.length : Int) = 2 * (k : Int) + (tk w k : Int)
  bnd : (Sq (fv xs) w k).f.length + (Sq (fv xs) w k).b.length ≤ k
theorem fv_at {xs : List Int} {k : Nat} (h : k < xs.length) : fv xs (k : Int) = xs[k] := by
  unfold fv
  rw [Int.toNat_natCast, List.getD_eq_getElem?_getD, List.getElem?_eq_getElem h] <;> rfl
theorem QI0 (xs : List Int) {w : Int} (hw : 1 ≤ w) : QI xs w 0 := by
  have e : tk w 0 = 0 := by unfold tk; omega
  refine ⟨trivial, by rw [e] <;> rfl, by rw [e] <;> rfl, rfl, by rw [e] <;> rfl, by rw [e] <;> rfl, Nat.le_refl 0⟩
theorem QIs {xs : List Int} {w : Int} (hw : 1 ≤ w) {k : Nat} (hk : k < xs.length) (h : QI xs w k) : QI xs w (k + 1) ∧ (w - 1 ≤ k → ∃ l y, (trn (Sq (fv xs) w k).f ((Sq (fv xs) w k).b ++ [fv xs k])).1 = l ++ [y] ∧ qs (qs (Sq (fv xs) w k) (some (fv xs k))) none = ⟨l, (trn (Sq (fv xs) w k).f ((Sq (fv xs) w k).b ++ [fv xs k])).2, (Sq (fv xs) w k).t ++ [y], (Sq (fv xs) w k).c ++ [1, 1 + (((Sq (fv xs) w k).b ++ [fv xs k]).length : Int) - ((trn (Sq (fv xs) w k).f ((Sq (fv xs) w k).b ++ [fv xs k])).2.length : Int)]⟩) := by
  have hx := fv_at hk
  obtain ⟨hv, hc, ht, hl, hdl, hs, hb⟩ := h
  have htk : tk w k ≤ k := by unfold tk; omega
  have con1 : (Sq (fv xs) w k).f.reverse ++ ((Sq (fv xs) w k).b ++ [fv xs k]) = (xs.take (k + 1)).drop (tk w k) := by
    rw [← List.append_assoc, hc, hx, List.take_succ_eq_append_getElem hk, List.drop_append_of_le_length (by simp; omega)]
  by_cases q : w - 1 ≤ k
  · have et : tk w (k + 1) = tk w k + 1 := by unfold tk; push_cast; omega
    have hne : (xs.take (k + 1)).drop (tk w k) ≠ [] := by
      intro z
      have := congrArg List.length z
      simp at this
      omega
    obtain ⟨y, r, hyr⟩ := List.exists_cons_of_ne_nil hne
    rw [hyr] at con1
    obtain ⟨l, l1, l2, l3⟩ := trn_some con1
    have hy : y = xs[tk w k]'(by omega) ∧ r = (xs.take (k + 1)).drop (tk w k + 1) := by
      rw [List.drop_eq_getElem_cons (by simp; omega)] at hyr
      cases hyr
      exact ⟨by simp, rfl⟩
    have eS : qs (qs (Sq (fv xs) w k) (some (fv xs k))) none = ⟨l, (trn (Sq (fv xs) w k).f ((Sq (fv xs) w k).b ++ [fv xs k])).2, (Sq (fv xs) w k).t ++ [y], (Sq (fv xs) w k).c ++ [1, 1 + (((Sq (fv xs) w k).b ++ [fv xs k]).length : Int) - ((trn (Sq (fv xs) w k).f ((Sq (fv xs) w k).b ++ [fv xs k])).2.length : Int)]⟩ := by
      simp only [qs]
      rw [l1]
      simp
    have tl := trn_len (Sq (fv xs) w k).f ((Sq (fv xs) w k).b ++ [fv xs k])
    rw [l1] at tl
    simp only [List.length_append, List.length_cons, List.length_nil] at tl
    have eq2 := Sq_succ (fv xs) w k
    rw [if_pos q, eS] at eq2
    refine ⟨⟨?_, ?_, ?_, ?_, ?_, ?_, ?_⟩, fun _ => ⟨l, y, l1, eS⟩⟩
    · rw [dq, if_pos q]
      exact Val_app hv ⟨l3, trivial⟩
    · rw [eq2, et, ← hy.2]
      exact l2
    · rw [eq2, et, List.take_succ_eq_append_getElem (by omega), ht, hy.1]
    · rw [eq2, dq, if_pos q]
      simp [hl]
    · rw [dq, if_pos q, et]
      simp [hdl]
      omega
    · rw [eq2, et]
      simp only [List.sum_append, List.sum_cons, List.sum_nil, List.length_append, List.length_cons, List.length_nil]
      push_cast
      push_cast at hs
      omega
    · rw [eq2]
      simp only
      omega
  · have et : tk w (k + 1) = tk w k := by unfold tk; push_cast; omega
    have eq2 := Sq_succ (fv xs) w k
    rw [if_neg q] at eq2
    refine ⟨⟨?_, ?_, ?_, ?_, ?_, ?_, ?_⟩, fun z => absurd z q⟩
    · rw [dq, if_neg q]
      exact Val_app hv trivial
    · rw [eq2, et]
      exact con1
    · rw [eq2, et]
      exact ht
    · rw [eq2, dq, if_neg q]
      simp [qs, hl]
    · rw [dq, if_neg q, et]
      simp [hdl]
      omega
    · rw [eq2, et]
      simp only [qs, List.sum_append, List.sum_cons, List.sum_nil, List.length_append, List.length_cons, List.length_nil]
      push_cast
      omega
    · rw [eq2]
      simp only [qs, List.length_append, List.length_cons, List.length_nil]
      omega
theorem QIk {xs : List Int} {w : Int} (hw : 1 ≤ w) : ∀ k, k ≤ xs.length → QI xs w k
  | 0, _ => QI0 xs hw
  | k + 1, h => (QIs hw (by omega) (QIk hw k (by omega))).1
def LqI (xs : List Int) (w : Int) (ys : List D) (ρ : Env') (M : Store) : Prop := ∃ (k : Nat) (p : Int) (x6 x7 x10 : Option D), IsN p k ∧ k ≤ xs.length ∧ ys = enI p (xs.drop k) ∧
  ρ = [some (tI xs), some (.int w), some (.ref 0), some (tD (Sq (fv xs) w k).f (Sq (fv xs) w k).b), some (.ref 1), some (.int 0), x6, x7, none, none, x10] ∧ M = [.lst ((dq (fv xs) w k).map oD), .lst ((Sq (fv xs) w k).t.map .int)]
theorem drop_nil_k {xs : List Int} {k : Nat} {p : Int} (hk : k ≤ xs.length) (h : ([] : List D) = enI p (xs.drop k)) : k = xs.length := by
  cases hdr : xs.drop k with
  | nil =>
    have := congrArg List.length hdr
    simp at this
    omega
  | cons x r =>
    rw [hdr] at h
    cases h
theorem a_queue_right (n : Nat) {xs : List Int} {w : Int} (hw1 : 1 ≤ w) (hwn : w ≤ xs.length) (hl : xs.length ≤ 60) : Ans (Ph (n + 5)) "_law_is_queue_right" [tI xs, .int w] (.bl true) := by
  refine ans_run lk_law_is_queue_right rfl ?_
  have e0 : enmL 0 (xs.map D.int) = enI 0 xs := enmL_int xs 0
  simp [c_law_is_queue_right, e0]
  refine WP_bind (WP.mono (Q := fun f M => ∃ ρ, f = .nx ρ ∧ LqI xs w [] ρ M) (WP_for (LqI xs w) ⟨0, 0, none, none, none, rfl, by omega, by simp, rfl, rfl⟩ (fun y r ρ M hI => ?_) (fun ρ M hI => ⟨ρ, rfl, hI⟩)) (fun f M hf => ?_))
  · obtain ⟨k, p, x6, x7, x10, hp0, hk, hys, rfl, rfl⟩ := hI
    have hp : p = (k : Int) := hp0
    cases hdr : xs.drop k with
    | nil => rw [hdr] at hys; cases hys
    | cons x r' =>
      rw [hdr] at hys
      cases hys
      obtain ⟨hk1, hx, hdr2⟩ := drop_cons hdr
      have I := QIk (xs := xs) hw1 k hk
      obtain ⟨I1, I2⟩ := QIs hw1 hk1 I
      have hS := Sq_succ (fv xs) w k
      have hD : dq (fv xs) w (k + 1) = dq (fv xs) w k ++ (some (fv xs k) :: if w - 1 ≤ k then [none] else []) := rfl
      rw [hx] at hS hD I2
      rw [← hp] at hS hD I2
      have b1 := I.bnd
      have b2 := I.dln
      have b3 : tk w k ≤ k := by unfold tk; omega
      have b4 : (Sq (fv xs) w k).t.length ≤ k := by rw [I.tak]; simp; omega
      generalize Sq (fv xs) w k = S0 at *
      have hpk : IsN (p + 1) (k + 1) := by
        show p + 1 = ((k + 1 : Nat) : Int)
        push_cast
        omega
      have c1 : ∀ M, callR (Ph (n + 4)) "queue_put" 0 [tD S0.f S0.b, .int x] M = _ := fun M => callR0 (a_qput (n + 3) S0.f S0.b x (by omega)) (cls2 (tD_cl 0 _ _) rfl) (tD_cl 0 _ _)
      have m1 : ∀ d M, appF 0 (some (.lst ((dq (fv xs) w k).map oD))) d M = .ok .non (M.set 0 (.lst ((dq (fv xs) w k).map oD ++ [d]))) := fun d M => appF_lst _ _ _ _ (by simp; omega)
      have m2 : ∀ d d' M, appF 0 (some (.lst ((dq (fv xs) w k).map oD ++ [d']))) d M = .ok .non (M.set 0 (.lst ((dq (fv xs) w k).map oD ++ [d'] ++ [d]))) := fun d d' M => appF_lst _ _ _ _ (by simp; omega)
      have m3 : ∀ d M, appF 1 (some (.lst (S0.t.map .int))) d M = .ok .non (M.set 1 (.lst (S0.t.map .int ++ [d]))) := fun d M => appF_lst _ _ _ _ (by simp; omega)
      have s1 : ∀ (z : Int) M, callR (Ph (n + 4)) "_law_same" 0 [.int z, .int z] M = _ := fun z M => call_same rfl (int_pl _ _) M
      have pot : ∀ (f b : List Int) (z : Int), z = b.length → ∀ M, callR (Ph (n + 4)) "queue_potential" 0 [tD f b] M = .ok (.int z) M := fun f b z hz M => callR0 (a_qpot (n + 3) hz) (cls1 (tD_cl 0 _ _)) rfl
      refine ⟨_, rfl, ?_⟩
      by_cases hwp : w - 1 ≤ p
      · obtain ⟨l, y, h1, h2⟩ := I2 hwp
        have hne : S0.f ≠ [] ∨ S0.b ++ [x] ≠ [] := .inr (by simp)
        have c2 : ∀ M, callR (Ph (n + 4)) "queue_take" 0 [tD S0.f (S0.b ++ [x])] M = _ := fun M => callR0 (a_qtake (n + 2) hne h1) (cls1 (tD_cl 0 _ _)) (by
          show (true && (D.cl 0 (tD _ _) && true)) = true
          rw [tD_cl] <;> rfl)
        rw [if_pos hwp] at hS hD
        rw [h2] at hS
        generalize (trn S0.f (S0.b ++ [x])).2 = bb at *
        obtain ⟨z, hz⟩ : ∃ z : Int, z = bb.length := ⟨_, rfl⟩
        have c3 := pot l bb z hz
        have l3 := lenF_tI hz
        generalize hl1 : (dq (fv xs) w k).map oD = l1 at *
        generalize hl2 : S0.t.map D.int = l2 at *
        simp only [tI, tD, List.map_append, List.map_cons, List.map_nil] at *
        simp [b_law_is_queue_right_1, c1, c2, c3, l3, m1, m2, m3, s1, hwp, -lenF_tup]
        refine ⟨k + 1, p + 1, some (.int p), some (.int x), some (.int y), hpk, by omega, by rw [hdr2], ?_, ?_⟩
        · rw [hS]
        · rw [hS, hD]
          simp [← hl1, ← hl2, oD]
      · rw [if_neg hwp] at hS hD
        obtain ⟨z, hz⟩ : ∃ z : Int, z = (S0.b ++ [x]).length := ⟨_, rfl⟩
        have c3 := pot S0.f (S0.b ++ [x]) z hz
        have l3 := lenF_tI hz
        generalize hl1 : (dq (fv xs) w k).map oD = l1 at *
        generalize hl2 : S0.t.map D.int = l2 at *
        simp only [tI, tD, List.map_append, List.map_cons, List.map_nil] at *
        simp [b_law_is_queue_right_1, c1, c3, l3, m1, s1, hwp, -lenF_tup]
        refine ⟨k + 1, p + 1, some (.int p), some (.int x), x10, hpk, by omega, by rw [hdr2], ?_, ?_⟩
        · rw [hS]
          simp [qs]
        · rw [hS, hD]
          simp [← hl1, ← hl2, oD, qs]
  · obtain ⟨ρ, rfl, k, p, x6, x7, x10, hp0, hk, hys, rfl, rfl⟩ := hf
    have hkk := drop_nil_k hk hys
    subst hkk
    obtain ⟨L, hL⟩ : ∃ L : Int, L = (xs.length : Int) := ⟨_, rfl⟩
    have hlen := lenF_tI hL
    obtain ⟨hv, hc, ht, hcl, hdl, hs, hb⟩ := QIk (xs := xs) hw1 xs.length (Nat.le_refl _)
    have htk : tk w xs.length ≤ xs.length := by unfold tk; omega
    have c1 : ∀ M, callR (Ph (n + 4)) "queue_run" 0 [tD [] [], .tup ((dq (fv xs) w xs.length).map oD)] M = .ok (.tup [tI (Sq (fv xs) w xs.length).t, tI (Sq (fv xs) w xs.length).c]) M := fun M => callR0 (a_qrun (n + 1) hv (by omega)) (by
      have : D.cls 0 ((dq (fv xs) w xs.length).map oD) = true := cls_of fun x hx => by
        obtain ⟨c, _, rfl⟩ := List.mem_map.mp hx
        cases c <;> rfl
      show (true && ((D.cls 0 ((dq (fv xs) w xs.length).map oD)) && true)) = true
      rw [this] <;> rfl) (tD_cl 0 _ _)
    have s1 : ∀ M, callR (Ph (n + 4)) "_law_same" 0 [.tup [tI (Sq (fv xs) w xs.length).t, tI (Sq (fv xs) w xs.length).t], .tup [tI (Sq (fv xs) w xs.length).t, tI (Sq (fv xs) w xs.length).t]] M = _ := fun M => call_same rfl (pl_t (k := n + 2) (by simp) (pls_c (tIm_plB _ _ (by rw [ht]; simp; omega)) (pls_c (tIm_plB _ _ (by rw [ht]; simp; omega)) rfl))) M
    obtain ⟨z, hz⟩ : ∃ z : Int, z = (Sq (fv xs) w xs.length).b.length := ⟨_, rfl⟩
    have c3 : ∀ M, callR (Ph (n + 4)) "queue_potential" 0 [tD (Sq (fv xs) w xs.length).f (Sq (fv xs) w xs.length).b] M = .ok (.int z) M := fun M => callR0 (a_qpot (n + 3) hz) (cls1 (tD_cl 0 _ _)) rfl
    obtain ⟨T, hT⟩ : ∃ T : Int, T = (Sq (fv xs) w xs.length).t.length := ⟨_, rfl⟩
    have l1 : ∀ M, lenF (.lst ((Sq (fv xs) w xs.length).t.map D.int)) M = .ok (.int T) M := fun M => by rw [lenF_lst, List.length_map, hT]
    have hTk : T.toNat = tk w xs.length ∧ 0 ≤ T ∧ T = (tk w xs.length : Int) := by
      have : (Sq (fv xs) w xs.length).t.length = tk w xs.length := by rw [ht]; simp; omega
      omega
    have hcut : cut (xs.map D.int) none (some T) = (Sq (fv xs) w xs.length).t.map D.int := by
      rw [cut_to _ hTk.2.1, hTk.1, ht, List.map_take]
    have rp := bop_rep (x := .tup ((Sq (fv xs) w xs.length).t.map D.int)) (t := 2) (by decide)
    obtain ⟨N, hN⟩ : ∃ N : Int, N = (dq (fv xs) w xs.length).length := ⟨_, rfl⟩
    have l2 : ∀ M, lenF (.lst ((dq (fv xs) w xs.length).map oD)) M = .ok (.int N) M := fun M => by rw [lenF_lst, List.length_map, hN]
    have l3 := lenF_tI (xs := (Sq (fv xs) w xs.length).c) (L := N) (by rw [hcl, hN])
    have m2 : bop .mul (.int 2) (.int L) = some (.int (2 * L)) := bop_mulS (by decide) (by omega)
    rw [← hz, ← hTk.2.2, ← hL] at hs
    generalize Sq (fv xs) w xs.length = S0 at *
    generalize hl1 : (dq (fv xs) w xs.length).map oD = dl at *
    have er : List.replicate (2 : Int).toNat (D.tup (S0.t.map D.int)) = [.tup (S0.t.map D.int), .tup (S0.t.map D.int)] := rfl
    rw [er] at rp
    simp only [tI, tD, List.map_nil] at *
    generalize S0.t.map D.int = tl at *
    simp [c1, hcut, rp, s1, l1, l2, l3, c3, m2, hlen, hs, -lenF_lst, -lenF_tup]
end Lk73

set_option Elab.async false
set_option linter.all false
set_option maxRecDepth 100000
set_option maxHeartbeats 8000000
namespace Lk73
open PySem CZ
@[simp] theorem partC_var' (i : Nat) (j : Int) : partC (.var i) (.int j) = some (some j) := Eq.trans rfl rfl
def flf (f b : List Int) : List Int × List Int × Nat := if f = [] then ((b.take ((b.length + 1) / 2)).reverse, b.drop ((b.length + 1) / 2), (b.length + 1) / 2) else (f, b, 0)
theorem a_filled (n : Nat) {f b : List Int} (h : f ≠ [] ∨ b ≠ []) (hl : b.length ≤ 1000) {z : Int} (hz : z = (flf f b).2.2) : Ans (Ph (n + 1)) "front_filled" [tD f b] (.tup [tD (flf f b).1 (flf f b).2.1, .int z]) := by
  refine ans_run lk_front_filled rfl ?_
  have h1 := eq_tup_nil f
  have h2 := eqq_tup_nil b
  unfold flf at hz ⊢
  by_cases hf : f = []
  · have hb : b.isEmpty = false := by
      rcases h with h | h
      · exact absurd hf h
      · simpa using h
    rw [hb] at h2
    subst hf
    rw [if_pos rfl] at hz ⊢
    simp only at hz ⊢
    obtain ⟨L, hL⟩ : ∃ L : Int, L = b.length := ⟨_, rfl⟩
    have hlen := lenF_tI hL
    have fd : bop .fdv (.int (L + 1)) (.int 2) = some (.int z) := by
      rw [bop_fdvS (by decide) (by decide)]
      congr 2
      omega
    have zn : z.toNat = (b.length + 1) / 2 ∧ 0 ≤ z := by omega
    have q1 := cut_to (b.map D.int) zn.2
    have q2 := cut_fromG (b.map D.int) zn.2
    rw [zn.1, ← List.map_take] at q1
    rw [zn.1, ← List.map_drop] at q2
    simp at h1
    generalize b.take ((b.length + 1) / 2) = b1 at *
    generalize b.drop ((b.length + 1) / 2) = b2 at *
    simp only [tI, tD] at *
    simp [c_front_filled, h1, h2, hlen, fd, q1, q2, -lenF_tup]
  · have hf' : f.isEmpty = false := by simpa using hf
    rw [hf'] at h1
    rw [if_neg hf] at hz ⊢
    simp only at hz ⊢
    have : z = 0 := by simpa using hz
    subst this
    simp only [tI, tD] at *
    simp [c_front_filled, h1]
theorem flf_ne {f b : List Int} (h : f ≠ [] ∨ b ≠ []) : ∃ l y, (flf f b).1 = l ++ [y] := by
  unfold flf
  split
  · rename_i q
    rcases h with h | h
    · exact absurd q h
    · have : (b.take ((b.length + 1) / 2)).reverse ≠ [] := by
        intro z
        have := congrArg List.length z
        have hb := List.length_pos_iff.mpr h
        rw [List.length_reverse, List.length_take, List.length_nil] at this
        omega
      rcases List.eq_nil_or_concat (b.take ((b.length + 1) / 2)).reverse with e | ⟨l, c, e⟩
      · exact absurd e this
      · exact ⟨l, c, by rw [e, List.concat_eq_append]⟩
  · rename_i q
    rcases List.eq_nil_or_concat f with e | ⟨l, c, e⟩
    · exact absurd e q
    · exact ⟨l, c, by rw [e, List.concat_eq_append]⟩
theorem flf_con (f b : List Int) : (flf f b).1.reverse ++ (flf f b).2.1 = f.reverse ++ b := by
  unfold flf
  split
  · rename_i q
    subst q
    simp
  · rfl
theorem flf_len (f b : List Int) : (flf f b).1.length + (flf f b).2.1.length = f.length + b.length := by
  have := congrArg List.length (flf_con f b)
  simpa using this
/-- what it costs, and the gap -/
theorem flf_gap {f b l : List Int} {y : Int} (h : (flf f b).1 = l ++ [y]) (hn : f ≠ [] ∨ b ≠ []) : 2 * ((flf f b).2.2 + 1) + ((l.length : Int) - ((flf f b).2.1.length : Int)).natAbs ≤ 3 + ((f.length : Int) - (b.length : Int)).natAbs := by
  have hl := congrArg List.length h
  unfold flf at hl ⊢
  split at hl
  · rename_i q
    subst q
    rw [if_pos rfl]
    have hb : 0 < b.length := by
      rcases hn with hn | hn
      · exact absurd rfl hn
      · exact List.length_pos_iff.mpr hn
    simp at hl ⊢
    omega
  · rename_i q
    rw [if_neg q]
    simp at hl ⊢
    omega
theorem a_ftaken (n : Nat) {f b l : List Int} {y z : Int} (h : f ≠ [] ∨ b ≠ []) (hl : b.length ≤ 1000) (h1 : (flf f b).1 = l ++ [y]) (hz : z = (flf f b).2.2) : Ans (Ph (n + 2)) "front_taken" [tD f b] (.tup [tD l (flf f b).2.1, .int (z + 1)]) := by
  refine ans_run lk_front_taken rfl ?_
  have c : ∀ M, callR (Ph (n + 1)) "front_filled" 0 [tD f b] M = _ := fun M => callR0 (a_filled n h hl hz) (cls1 (tD_cl 0 f b)) (by
    show (D.cl 0 (tD _ _) && (true && true)) = true
    rw [tD_cl] <;> rfl)
  rw [h1] at c
  have e2 := cut_init (l.map D.int) (.int y)
  simp only [tI, tD, List.map_append, List.map_cons, List.map_nil] at *
  simp [c_front_taken, c, e2]
theorem call_ftaken {n : Nat} {f b l : List Int} {y z : Int} (h : f ≠ [] ∨ b ≠ []) (hl : b.length ≤ 1000) (h1 : (flf f b).1 = l ++ [y]) (hz : z = (flf f b).2.2) (M : Store) : callR (Ph (n + 2)) "front_taken" 0 [tD f b] M = .ok (.tup [tD l (flf f b).2.1, .int (z + 1)]) M := callR0 (a_ftaken n h hl h1 hz) (cls1 (tD_cl 0 f b)) (by
    show (D.cl 0 (tD _ _) && (true && true)) = true
    rw [tD_cl] <;> rfl)
inductive ED where
  | pb (x : Int) | tf | tb
def ED.s : ED → D
  | .pb _ => .str "putback"
  | .tf => .str "takefront"
  | .tb => .str "takeback"
def ED.v : ED → D
  | .pb x => .int x
  | .tf => .non
  | .tb => .non
def oE (e : ED) : D := .tup [e.s, e.v]
structure ES where
  f : List Int
  b : List Int
  c : List Int
def e0s : ES := ⟨[], [], []⟩
def es (s : ES) : ED → ES
  | .pb x => ⟨s.f, s.b ++ [x], s.c ++ [1]⟩
  | .tf => ⟨(flf s.f s.b).1.dropLast, (flf s.f s.b).2.1, s.c ++ [((flf s.f s.b).2.2 : Int) + 1]⟩
  | .tb => ⟨(flf s.b s.f).2.1, (flf s.b s.f).1.dropLast, s.c ++ [((flf s.b s.f).2.2 : Int) + 1]⟩
def okE (s : ES) : ED → Prop
  | .pb _ => True
  | _ => s.f ≠ [] ∨ s.b ≠ []
def costE (s : ES) : ED → Int
  | .pb _ => 1
  | .tf => ((flf s.f s.b).2.2 : Int) + 1
  | .tb => ((flf s.b s.f).2.2 : Int) + 1
theorem es_c (s : ES) (e : ED) : (es s e).c = s.c ++ [costE s e] := by cases e <;> rfl
theorem a_estep (n : Nat) (s : ES) (e : ED) (h : okE s e) (hl : s.f.length ≤ 1000) (hl2 : s.b.length ≤ 999) : Ans (Ph (n + 3)) "ends_step" [tD s.f s.b, e.s, e.v] (.tup [tD (es s e).f (es s e).b, .int (costE s e)]) := by
  refine ans_run lk_ends_step rfl ?_
  cases e with
  | pb x =>
    have e1 : cop .eq (.str (Str.ofString "putback")) (.str (Str.ofString "putfront")) = some false := by decide +kernel
    have e2 : cop .eq (.str (Str.ofString "putback")) (.str (Str.ofString "putback")) = some true := by decide +kernel
    have c : bop .add (tI s.b) (.tup [.int x]) = some (.tup (s.b.map D.int ++ [.int x])) := bop_cat (by simp; omega)
    simp only [tI, tD, ED.s, ED.v, es, costE] at *
    simp [c_ends_step, e1, e2, c, -cop_eqs]
  | tf =>
    have e1 : cop .eq (.str (Str.ofString "takefront")) (.str (Str.ofString "putfront")) = some false := by decide +kernel
    have e2 : cop .eq (.str (Str.ofString "takefront")) (.str (Str.ofString "putback")) = some false := by decide +kernel
    have e3 : cop .eq (.str (Str.ofString "takefront")) (.str (Str.ofString "takefront")) = some true := by decide +kernel
    obtain ⟨l, y, hy⟩ := flf_ne h
    obtain ⟨z, hz⟩ : ∃ z : Int, z = (flf s.f s.b).2.2 := ⟨_, rfl⟩
    have c := call_ftaken (n := n) h (by omega) hy hz
    simp only [ED.s, ED.v, es, costE] at *
    rw [hy, ← hz]
    simp only [tI, tD, List.dropLast_concat] at *
    simp [c_ends_step, e1, e2, e3, c, -cop_eqs]
  | tb =>
    have e1 : cop .eq (.str (Str.ofString "takeback")) (.str (Str.ofString "putfront")) = some false := by decide +kernel
    have e2 : cop .eq (.str (Str.ofString "takeback")) (.str (Str.ofString "putback")) = some false := by decide +kernel
    have e3 : cop .eq (.str (Str.ofString "takeback")) (.str (Str.ofString "takefront")) = some false := by decide +kernel
    have h' : s.b ≠ [] ∨ s.f ≠ [] := Or.symm h
    obtain ⟨l, y, hy⟩ := flf_ne h'
    obtain ⟨z, hz⟩ : ∃ z : Int, z = (flf s.b s.f).2.2 := ⟨_, rfl⟩
    have c := call_ftaken (n := n) h' (by omega) hy hz
    simp only [ED.s, ED.v, es, costE] at *
    rw [hy, ← hz]
    simp only [tI, tD, List.dropLast_concat] at *
    simp [c_ends_step, e1, e2, e3, c, -cop_eqs]
theorem ed_cl (e : ED) : D.cl 0 e.s = true ∧ D.cl 0 e.v = true := by cases e <;> exact ⟨rfl, rfl⟩
theorem call_estep {n : Nat} (s : ES) (e : ED) (h : okE s e) (hl : s.f.length ≤ 1000) (hl2 : s.b.length ≤ 999) (M : Store) : callR (Ph (n + 3)) "ends_step" 0 [tD s.f s.b, e.s, e.v] M = .ok (.tup [tD (es s e).f (es s e).b, .int (costE s e)]) M := callR0 (a_estep n s e h hl hl2) (by
    show (D.cl 0 (tD _ _) && (D.cl 0 e.s && (D.cl 0 e.v && true))) = true
    rw [tD_cl, (ed_cl e).1, (ed_cl e).2] <;> rfl) (by
    show (D.cl 0 (tD _ _) && (true && true)) = true
    rw [tD_cl] <;> rfl)
theorem a_eafter (n : Nat) (s : ES) (e : ED) (h : okE s e) (hl : s.f.length ≤ 1000) (hl2 : s.b.length ≤ 999) : Ans (Ph (n + 4)) "ends_after" [tD s.f s.b, e.s, e.v] (tD (es s e).f (es s e).b) := by
  refine ans_run lk_ends_after rfl ?_
  have c := call_estep (n := n) s e h hl hl2
  generalize costE s e = z at *
  generalize es s e = s' at *
  generalize e.s = e1 at *
  generalize e.v = e2 at *
  simp only [tI, tD] at *
  simp [c_ends_after, c]
theorem call_eafter {n : Nat} (s : ES) (e : ED) (h : okE s e) (hl : s.f.length ≤ 1000) (hl2 : s.b.length ≤ 999) (M : Store) : callR (Ph (n + 4)) "ends_after" 0 [tD s.f s.b, e.s, e.v] M = .ok (tD (es s e).f (es s e).b) M := callR0 (a_eafter n s e h hl hl2) (by
    show (D.cl 0 (tD _ _) && (D.cl 0 e.s && (D.cl 0 e.v && true))) = true
    rw [tD_cl, (ed_cl e).1, (ed_cl e).2] <;> rfl) (tD_cl 0 _ _)
def VE : ES → List ED → Prop
  | _, [] => True
  | s, e :: r => okE s e ∧ VE (es s e) r
theorem VE_app : ∀ {a b : List ED} {s : ES}, VE s a → VE (a.foldl es s) b → VE s (a ++ b)
  | [], _, _, _, h => h
  | e :: a, b, s, h, h2 => ⟨h.1, VE_app h.2 h2⟩
theorem es_len (s : ES) (e : ED) (h : okE s e) : (es s e).f.length + (es s e).b.length ≤ s.f.length + s.b.length + 1 := by
  cases e with
  | pb x => simp [es]; omega
  | tf =>
    have := flf_len s.f s.b
    obtain ⟨l, y, hy⟩ := flf_ne h
    simp only [es]
    rw [hy] at this ⊢
    simp at this ⊢
    omega
  | tb =>
    have := flf_len s.b s.f
    obtain ⟨l, y, hy⟩ := flf_ne (Or.symm h)
    simp only [es]
    rw [hy] at this ⊢
    simp at this ⊢
    omega
theorem erun_loop {n : Nat} (d1 d2 : D) : ∀ (ds : List ED) (s : ES) (x4 x5 x6 : Option D), VE s ds → s.f.length + s.b.length + s.c.length + 2 * ds.length ≤ 900 → ∃ x4' x5' x6', forL (ex (Ph (n + 3)) b_ends_run_1) (.tp [4, 5]) (ds.map oE) [some d1, some d2, some (tD s.f s.b), some (.ref 0), x4, x5, x6] [.lst (s.c.map .int)] =
    .ok (.nx [some d1, some d2, some (tD (ds.foldl es s).f (ds.foldl es s).b), some (.ref 0), x4', x5', x6']) [.lst ((ds.foldl es s).c.map .int)]
  | [], s, x4, x5, x6, _, _ => ⟨x4, x5, x6, rfl⟩
  | e :: ds, s, x4, x5, x6, hv, hz => by
    simp only [List.length_cons] at hz
    have c := call_estep (n := n) s e hv.1 (by omega) (by omega)
    have el := es_len s e hv.1
    have ec := es_c s e
    have m1 : ∀ d M, appF 0 (some (.lst (s.c.map .int))) d M = .ok .non (M.set 0 (.lst (s.c.map .int ++ [d]))) := fun d M => appF_lst _ _ _ _ (by simp; omega)
    obtain ⟨a, b, c', h⟩ := erun_loop (n := n) d1 d2 ds (es s e) (some e.s) (some e.v) (some (.int (costE s e))) hv.2 (by rw [ec]; simp; omega)
    refine ⟨a, b, c', ?_⟩
    have e1 : ex (Ph (n + 3)) b_ends_run_1 [some d1, some d2, some (tD s.f s.b), some (.ref 0), some e.s, some e.v, x6] [.lst (s.c.map .int)] = .ok (.nx [some d1, some d2, some (tD (es s e).f (es s e).b), some (.ref 0), some e.s, some e.v, some (.int (costE s e))]) [.lst ((es s e).c.map .int)] := by
      rw [ec]
      generalize costE s e = z at *
      generalize es s e = s' at *
      generalize e.s = e1 at *
      generalize e.v = e2 at *
      simp only [tI, tD] at *
      simp [b_ends_run_1, c, m1]
    rw [List.map_cons, forL]
    show (ex (Ph (n + 3)) b_ends_run_1 [some d1, some d2, some (tD s.f s.b), some (.ref 0), some e.s, some e.v, x6] [.lst (s.c.map .int)]).bind _ = _
    rw [e1, Res.bind_ok]
    exact h
theorem a_erun (n : Nat) {ds : List ED} (hv : VE e0s ds) (hl : ds.length ≤ 200) : Ans (Ph (n + 4)) "ends_run" [tD [] [], .tup (ds.map oE)] (tI (ds.foldl es e0s).c) := by
  obtain ⟨a, b, c, h⟩ := erun_loop (n := n) (tD [] []) (.tup (ds.map oE)) ds e0s none none none hv (by simp [e0s]; omega)
  refine ans_run lk_ends_run rfl ?_
  have h' : forL (ex (Ph (n + 3)) b_ends_run_1) (.tp [4, 5]) (ds.map oE) [some (.tup [.tup [], .tup []]), some (.tup (ds.map oE)), some (.tup [.tup [], .tup []]), some (.ref 0), none, none, none] [.lst []] = _ := h
  simp only [tI, tD] at *
  simp [c_ends_run, h']
end Lk73

set_option Elab.async false
set_option linter.all false
set_option maxRecDepth 100000
set_option maxHeartbeats 8000000
namespace Lk73
open PySem CZ
def gp (s : ES) : Int := ((s.f.length : Int) - (s.b.length : Int)).natAbs
structure J (s : ES) (H : List Int) : Prop where
  con : s.f.reverse ++ s.b = H
  gap : 2 * s.c.sum + gp s ≤ 3 * (s.c.length : Int)
theorem J_pb {s : ES} {H : List Int} (h : J s H) (x : Int) : J (es s (.pb x)) (H ++ [x]) := by
  refine ⟨by simp only [es]; rw [← List.append_assoc, h.con], ?_⟩
  have := h.gap
  simp only [es, gp, List.sum_append, List.sum_cons, List.sum_nil, List.length_append, List.length_cons, List.length_nil] at *
  omega
theorem ne_of_con {s : ES} {y : Int} (h : y ∈ s.f.reverse ++ s.b) : s.f ≠ [] ∨ s.b ≠ [] := by
  rcases List.mem_append.mp h with h | h
  · left
    intro z
    rw [z] at h
    cases h
  · right
    intro z
    rw [z] at h
    cases h
theorem J_tf {s : ES} {H : List Int} {y : Int} (h : J s (y :: H)) : okE s .tf ∧ J (es s .tf) H := by
  have hn := ne_of_con (s := s) (y := y) (by rw [h.con]; simp)
  obtain ⟨l, y', hy⟩ := flf_ne hn
  have c := flf_con s.f s.b
  have g := flf_gap hy hn
  have q := h.gap
  rw [h.con, hy] at c
  simp at c
  refine ⟨hn, ⟨?_, ?_⟩⟩
  · simp only [es]
    rw [hy, List.dropLast_concat]
    exact c.2
  · simp only [es, gp, List.sum_append, List.sum_cons, List.sum_nil, List.length_append, List.length_cons, List.length_nil] at *
    rw [hy, List.dropLast_concat]
    omega
theorem J_tb {s : ES} {H : List Int} {y : Int} (h : J s (H ++ [y])) : okE s .tb ∧ J (es s .tb) H := by
  have hn := ne_of_con (s := s) (y := y) (by rw [h.con]; simp)
  have hn' := Or.symm hn
  obtain ⟨l, y', hy⟩ := flf_ne hn'
  have c := flf_con s.b s.f
  have g := flf_gap hy hn'
  have q := h.gap
  have e : s.b.reverse ++ s.f = y :: H.reverse := by
    have := congrArg List.reverse h.con
    simpa using this
  rw [e, hy] at c
  simp at c
  refine ⟨hn, ⟨?_, ?_⟩⟩
  · simp only [es]
    rw [hy, List.dropLast_concat]
    have := congrArg List.reverse c.2
    simpa using this
  · simp only [es, gp, List.sum_append, List.sum_cons, List.sum_nil, List.length_append, List.length_cons, List.length_nil] at *
    rw [hy, List.dropLast_concat]
    omega
theorem fold_c : ∀ (ds : List ED) (s : ES), (ds.foldl es s).c.length = s.c.length + ds.length
  | [], _ => rfl
  | e :: ds, s => by
    rw [List.foldl_cons, fold_c ds (es s e), es_c]
    simp
    omega
theorem J_len {s : ES} {H : List Int} (h : J s H) : s.f.length + s.b.length = H.length := by
  have := congrArg List.length h.con
  simpa using this
/-- the deeds so far -/
structure Dd (da : List ED) (H : List Int) : Prop where
  val : VE e0s da
  j : J (da.foldl es e0s) H
theorem Dd.snoc {da : List ED} {H H' : List Int} {e : ED} (h : Dd da H) (ok : okE (da.foldl es e0s) e) (j : J (es (da.foldl es e0s) e) H') : Dd (da ++ [e]) H' := by
  refine ⟨VE_app h.val ⟨ok, trivial⟩, ?_⟩
  rw [List.foldl_append]
  exact j
abbrev eD (da : List ED) : D := tD (da.foldl es e0s).f (da.foldl es e0s).b
theorem appE (da : List ED) (e : ED) (hl : da.length ≤ 900) (M : Store) : appF 0 (some (.lst (da.map oE))) (.tup [e.s, e.v]) M = .ok .non (M.set 0 (.lst ((da ++ [e]).map oE))) := by
  rw [appF_lst _ _ _ _ (by simp; omega), List.map_append] <;> rfl
theorem after_ok {n : Nat} {da : List ED} {H H' : List Int} {e : ED} (h : Dd da H) (ok : okE (da.foldl es e0s) e) (hH : H.length ≤ 900) (M : Store) : callR (Ph (n + 4)) "ends_after" 0 [eD da, e.s, e.v] M = .ok (eD (da ++ [e])) M := by
  have l := J_len h.j
  have := call_eafter (n := n) (da.foldl es e0s) e ok (by omega) (by omega) M
  rw [this]
  unfold eD
  rw [List.foldl_append] <;> rfl
theorem tb_loop {n : Nat} (d0 d1 d7 d8 d9 d10 d11 : D) : ∀ (ys : List D) (da : List ED) (H T : List Int) (x12 : Option D), Dd da (H ++ T) → T.length = ys.length → (H ++ T).length ≤ 900 → da.length + ys.length ≤ 900 → ∃ x12' da', forL (ex (Ph (n + 4)) b_law_are_ends_right_1) (.nm 12) ys [some d0, some d1, none, none, none, some (eD da), some (.ref 0), some d7, some d8, some d9, some d10, some d11, x12, none] [.lst (da.map oE)] =
    .ok (.nx [some d0, some d1, none, none, none, some (eD da'), some (.ref 0), some d7, some d8, some d9, some d10, some d11, x12', none]) [.lst (da'.map oE)] ∧ Dd da' H ∧ da'.length = da.length + ys.length
  | [], da, H, T, x12, h, hT, _, _ => by
    have : T = [] := List.eq_nil_of_length_eq_zero hT
    subst this
    rw [List.append_nil] at h
    exact ⟨x12, da, rfl, h, rfl⟩
  | y :: ys, da, H, T, x12, h, hT, hH, hz => by
    simp only [List.length_cons] at hT hz
    rcases List.eq_nil_or_concat T with e | ⟨T', t, e⟩
    · rw [e] at hT
      simp at hT
    · rw [List.concat_eq_append] at e
      subst e
      rw [← List.append_assoc] at h
      obtain ⟨k1, k2⟩ := J_tb h.j
      have h2 := h.snoc k1 k2
      have c := after_ok (n := n) (H' := H ++ T') h k1 (by rw [List.append_assoc]; exact hH)
      have m := appE da .tb (by omega)
      have e1 : ex (Ph (n + 4)) b_law_are_ends_right_1 [some d0, some d1, none, none, none, some (eD da), some (.ref 0), some d7, some d8, some d9, some d10, some d11, some y, none] [.lst (da.map oE)] = .ok (.nx [some d0, some d1, none, none, none, some (eD (da ++ [ED.tb])), some (.ref 0), some d7, some d8, some d9, some d10, some d11, some y, none]) [.lst ((da ++ [ED.tb]).map oE)] := by
        simp only [ED.s, ED.v] at *
        generalize eD (da ++ [ED.tb]) = z1 at *
        generalize eD da = z2 at *
        generalize (da ++ [ED.tb]).map oE = z3 at *
        generalize da.map oE = z4 at *
        simp [b_law_are_ends_right_1, c, m]
      obtain ⟨x12', da', h3, h4, h5⟩ := tb_loop (n := n) d0 d1 d7 d8 d9 d10 d11 ys (da ++ [.tb]) H T' (some y) h2 (by simp at hT; omega) (by simp at hH ⊢; omega) (by simp; omega)
      refine ⟨x12', da', ?_, h4, by rw [h5]; simp; omega⟩
      rw [forL, setT_nm]
      show (ex (Ph (n + 4)) b_law_are_ends_right_1 [some d0, some d1, none, none, none, some (eD da), some (.ref 0), some d7, some d8, some d9, some d10, some d11, some y, none] [.lst (da.map oE)]).bind _ = _
      rw [e1, Res.bind_ok]
      exact h3
def EnI (xs : List Int) (w : Int) (ys : List D) (ρ : Env') (M : Store) : Prop := ∃ (k : Nat) (p : Int) (da : List ED) (x9 x10 x11 x12 : Option D), IsN p k ∧ k ≤ xs.length ∧ ys = enI p (xs.drop k) ∧ Dd da ((st (fv xs) w k).reverse.map (fv xs)) ∧ (da.length : Int) = 2 * (k : Int) - sz (fv xs) w k ∧
  ρ = [some (tI xs), some (.int w), none, none, none, some (eD da), some (.ref 0), some (lI (st (fv xs) w k)), some (tD [] []), x9, x10, x11, x12, none] ∧ M = [.lst (da.map oE)]
theorem lowtwo {g : Int} (hg : 0 ≤ g) : low g 2 = if g % 2 = 0 then (g / 2, 1) else (g, 2) := by
  unfold low
  have h : Int.gcd g 2 = if g % 2 = 0 then 2 else 1 := by
    rw [← gcd_step]
    rcases Int.emod_two_eq g with h | h
    · rw [h] <;> rfl
    · rw [h] <;> rfl
  rw [h]
  split
  · rfl
  · simp
end Lk73

set_option Elab.async false
set_option linter.all false
set_option maxRecDepth 100000
set_option maxHeartbeats 16000000
namespace Lk73
open PySem CZ
theorem a_epot (n : Nat) {f b : List Int} {g : Int} (hg : g = ((f.length : Int) - (b.length : Int)).natAbs) (hf : f.length ≤ 1000) (hb : b.length ≤ 1000) : Ans (Ph (n + 2)) "ends_potential" [tD f b] (.tup [.int (low g 2).1, .int (low g 2).2]) := by
  refine ans_run lk_ends_potential rfl ?_
  obtain ⟨F, hF⟩ : ∃ F : Int, F = f.length := ⟨_, rfl⟩
  obtain ⟨B, hB⟩ : ∃ B : Int, B = b.length := ⟨_, rfl⟩
  have l1 := lenF_tI hF
  have l2 := lenF_tI hB
  have e : (if F - B < 0 then -(F - B) else F - B) = g := by
    rw [← hF, ← hB] at hg
    split <;> omega
  have e' : (if F < B then B - F else F - B) = g := by
    rw [← hF, ← hB] at hg
    split <;> omega
  have c : ∀ M, callR (Ph (n + 1)) "lowest" 0 [.int g, .int 2] M = _ := fun M => callR0 (a_lowest n g 2 (by decide)) rfl rfl
  simp only [tI, tD] at *
  simp [c_ends_potential, l1, l2, -lenF_tup]
  simp [e, e', c]
theorem rev_drop_last {r : List Int} {b : Int} (h : r.getLast? = some b) : r.reverse = b :: r.dropLast.reverse := by
  rcases List.eq_nil_or_concat r with rfl | ⟨l, c, rfl⟩
  · cases h
  · rw [List.concat_eq_append, List.getLast?_concat] at h
    cases h
    rw [List.concat_eq_append, List.dropLast_concat, List.reverse_append] <;> rfl
theorem ends_con {da : List ED} {H : List Int} (h : Dd da H) : bop .add (.lst ((da.foldl es e0s).f.reverse.map .int)) (.lst ((da.foldl es e0s).b.map .int)) = if (da.foldl es e0s).f.length + (da.foldl es e0s).b.length ≤ sizeLine then some (.lst (H.map .int)) else none := by
  show (if ((da.foldl es e0s).f.reverse.map D.int).length + ((da.foldl es e0s).b.map D.int).length ≤ sizeLine then some (D.lst ((da.foldl es e0s).f.reverse.map D.int ++ (da.foldl es e0s).b.map D.int)) else none) = _
  rw [← List.map_append, h.j.con]
  simp
theorem a_ends_right (n : Nat) {xs : List Int} {w : Int} (hw1 : 1 ≤ w) (hwn : w ≤ xs.length) (hl : xs.length ≤ 60) : Ans (Ph (n + 5)) "_law_are_ends_right" [tI xs, .int w] (.bl true) := by
  refine ans_run lk_law_are_ends_right rfl ?_
  have e0 : enmL 0 (xs.map D.int) = enI 0 xs := enmL_int xs 0
  simp [c_law_are_ends_right, e0]
  refine WP_bind (WP.mono (Q := fun f M => ∃ ρ, f = .nx ρ ∧ EnI xs w [] ρ M) (WP_for (EnI xs w) ⟨0, 0, [], none, none, none, none, rfl, by omega, by simp, ⟨trivial, ⟨rfl, by decide⟩⟩, rfl, rfl, rfl⟩ (fun y r ρ M hI => ?_) (fun ρ M hI => ⟨ρ, rfl, hI⟩)) (fun f M hf => ?_))
  · obtain ⟨k, p, da, x9, x10, x11, x12, hp0, hk, hys, hD, hda, rfl, rfl⟩ := hI
    have hp : p = (k : Int) := hp0
    cases hdr : xs.drop k with
    | nil => rw [hdr] at hys; cases hys
    | cons x r' =>
      rw [hdr] at hys
      cases hys
      obtain ⟨hk1, hx, hdr2⟩ := drop_cons hdr
      rw [← hp] at hx
      have hdn := (inv_st (f := fv xs) hw1 k).dn
      have hr := st_rg (xs := xs) hw1 (k := k) (by omega)
      have hsl := st_len (fv xs) w k
      have sp := st_step (f := fv xs) (w := w) hp
      rw [hx] at sp
      have bs := both_step (f := fv xs) (b := da.length) hw1 hp hda rfl
      rw [hx] at bs
      have hel := exq_len w p (st (fv xs) w k)
      have hdal : da.length ≤ 120 := by unfold sz at hda; omega
      refine ⟨_, rfl, ?_⟩
      simp only [b_law_are_ends_right_2, ex_seq]
      refine WP_bind (WP.mono (Q := fun f M1 => ∃ d1 : List ED, Dd d1 ((exq w p (st (fv xs) w k)).reverse.map (fv xs)) ∧ d1.length = da.length + ((st (fv xs) w k).length - (exq w p (st (fv xs) w k)).length) ∧ f = .nx [some (tI xs), some (.int w), none, none, none, some (eD d1), some (.ref 0), some (lI (exq w p (st (fv xs) w k))), some (tD [] []), some (.int p), some (.int x), x11, x12, none] ∧ M1 = [.lst (d1.map oE)]) ?_ (fun f M hf => ?_))
      · cases hbt : (st (fv xs) w k).getLast? with
        | none =>
          have e0 : st (fv xs) w k = [] := List.getLast?_eq_none_iff.mp hbt
          have ee : exq w p (st (fv xs) w k) = [] := by rw [e0] <;> rfl
          have h0 := lst_ne (r := [])
          simp at h0
          rw [e0] at hD
          rw [ee, e0]
          simp [h0]
          exact ⟨da, hD, rfl, ⟨rfl, rfl⟩, rfl⟩
        | some bb =>
          have hne : st (fv xs) w k ≠ [] := fun z => by rw [z] at hbt; cases hbt
          have h0 := lst_ne (r := (st (fv xs) w k).reverse)
          have hemp : (st (fv xs) w k).reverse.isEmpty = false := by simpa using hne
          rw [hemp] at h0
          have ab := atI_bot hbt
          have ec := exq_cut hbt
          have hdl : (st (fv xs) w k).dropLast.length + 1 = (st (fv xs) w k).length := by
            have := List.length_pos_iff.mpr hne
            rw [List.length_dropLast]
            omega
          by_cases q : bb ≤ p - w
          · have ee : exq w p (st (fv xs) w k) = (st (fv xs) w k).dropLast := by
              unfold exq
              rw [hbt]
              exact if_pos q
            have hD2 := hD
            rw [rev_drop_last hbt, List.map_cons] at hD2
            obtain ⟨k1, k2⟩ := J_tf hD2.j
            have hD3 := hD2.snoc k1 k2
            have c := after_ok (n := n) (H' := ((st (fv xs) w k).dropLast.reverse.map (fv xs))) hD2 k1 (by simp; omega)
            have m := appE da .tf (by omega)
            rw [ee]
            have e1 : (st (fv xs) w k).length - (st (fv xs) w k).dropLast.length = 1 := by omega
            rw [e1]
            generalize (st (fv xs) w k).dropLast = s1 at *
            generalize st (fv xs) w k = s0 at *
            have hfin : ∃ d1 : List ED, Dd d1 (s1.reverse.map (fv xs)) ∧ d1.length = da.length + 1 ∧ eD d1 = eD (da ++ [ED.tf]) ∧ d1.map oE = (da ++ [ED.tf]).map oE := ⟨_, hD3, by simp, rfl, rfl⟩
            simp only [ED.s, ED.v] at *
            generalize eD (da ++ [ED.tf]) = z1 at *
            generalize hz2 : eD da = z2 at *
            generalize (da ++ [ED.tf]).map oE = z3 at *
            generalize da.map oE = z4 at *
            simp only [tI, lI] at *
            simp [h0, ab, q, ec, c, m, -List.map_reverse]
            obtain ⟨d1, g1, g2, g3, g4⟩ := hfin
            exact ⟨d1, g1, g2, g3.symm, g4.symm⟩
          · have ee : exq w p (st (fv xs) w k) = st (fv xs) w k := by
              unfold exq
              rw [hbt]
              exact if_neg q
            rw [ee]
            generalize hs0 : st (fv xs) w k = s0 at *
            have hfin : ∃ d1 : List ED, Dd d1 (s0.reverse.map (fv xs)) ∧ d1.length = da.length + (s0.length - s0.length) ∧ eD d1 = eD da ∧ d1.map oE = da.map oE := ⟨da, hD, by omega, rfl, rfl⟩
            generalize eD da = z2 at *
            generalize da.map oE = z4 at *
            simp only [tI, lI] at *
            simp [h0, ab, q, -List.map_reverse]
            obtain ⟨d1, g1, g2, g3, g4⟩ := hfin
            exact ⟨d1, g1, by omega, g3.symm, g4.symm⟩
      · obtain ⟨d1, hD1, hd1, rfl, rfl⟩ := hf
        have hr1 := exq_rg (w := w) (p := p) hr
        have hdn1 := exq_dn (w := w) (p := p) hdn
        generalize hs1 : exq w p (st (fv xs) w k) = s1 at *
        obtain ⟨m, hm⟩ : ∃ m : Int, m = (cnt (fv xs) x s1 : Int) := ⟨_, rfl⟩
        obtain ⟨pd, pl⟩ := pop_drop (x := x) hdn1
        obtain ⟨L1, hL1⟩ : ∃ L1 : Int, L1 = (s1.length : Int) := ⟨_, rfl⟩
        have q2 : ∀ M, lenF (.lst ((s1.reverse.filter fun i => decide (x ≤ fv xs i)).map D.int)) M = .ok (.int m) M := fun M => by
          rw [lenF_lst, List.length_map, filt_cnt, hm]
        have q3 : ∀ M, lenF (.lst (s1.reverse.map D.int)) M = .ok (.int L1) M := fun M => by
          rw [lenF_lst, List.length_map, List.length_reverse, hL1]
        have q4 := cut_rev (fv xs) x hdn1 (c := L1 - m) (by rw [hL1, hm])
        have hsplit : s1.reverse.map (fv xs) = ((pop (fv xs) x s1).reverse.map (fv xs)) ++ ((s1.take (cnt (fv xs) x s1)).reverse.map (fv xs)) := by
          rw [pd, ← List.map_append, ← List.reverse_append, List.take_append_drop]
        rw [hsplit] at hD1
        have hps := pop_len (fv xs) x s1
        have hrl : (rngL 0 m).length = cnt (fv xs) x s1 := by rw [rngL_len]; omega
        obtain ⟨x12', d2, e2, hD2, hd2⟩ := tb_loop (n := n) (tI xs) (.int w) (.lst ((pop (fv xs) x s1).reverse.map .int ++ [.int p])) (tD [] []) (.int p) (.int x) (.int m) (rngL 0 m) d1 _ _ x12 hD1 (by rw [hrl]; simp; omega) (by simp; omega) (by rw [hrl]; omega)
        have hJ3 := J_pb hD2.j x
        have hD3 := hD2.snoc (e := .pb x) trivial hJ3
        have c3 := after_ok (n := n) (H' := (pop (fv xs) x s1).reverse.map (fv xs) ++ [x]) hD2 (e := .pb x) trivial (by simp; omega)
        have m3 := appE d2 (.pb x) (by omega)
        have hH : (pop (fv xs) x s1).reverse.map (fv xs) ++ [x] = (st (fv xs) w (k + 1)).reverse.map (fv xs) := by
          rw [sp]
          simp [hx]
        rw [hH] at hD3
        have con := ends_con hD3
        have jl := J_len hD3.j
        have hsl1 := st_len (fv xs) w (k + 1)
        have jl' : ((st (fv xs) w (k + 1)).reverse.map (fv xs)).length = (st (fv xs) w (k + 1)).length := by simp
        rw [if_pos (by rw [PySem.sizeLine_eq, jl, jl']; omega)] at con
        have hbn : ((d2 ++ [ED.pb x]).length : Int) = 2 * ((k + 1 : Nat) : Int) - sz (fv xs) w (k + 1) := by
          have : bothN (fv xs) w (k + 1) (((da.length : Int) + ((st (fv xs) w k).length - s1.length : Nat)) + (cnt (fv xs) x s1 : Int) + 1) := bs
          unfold bothN at this
          rw [← this, List.length_append, hd2, hd1, hrl]
          simp only [List.length_cons, List.length_nil]
          push_cast
          omega
        have hrs := st_rg (xs := xs) hw1 (k := k + 1) (by omega)
        have nl := ne_lst (xs := ((st (fv xs) w (k + 1)).reverse.map (fv xs)).map D.int) (shs_ints 59 _)
        have lstack : (pop (fv xs) x s1).reverse.map D.int ++ [D.int p] = (st (fv xs) w (k + 1)).reverse.map D.int := by
          rw [sp]
          simp
        have addp : bop .add (.lst ((pop (fv xs) x s1).reverse.map D.int)) (.lst [.int p]) = some (.lst ((pop (fv xs) x s1).reverse.map D.int ++ [.int p])) := if_pos (by rw [PySem.sizeLine_eq]; simp; omega)
        have hpk : IsN (p + 1) (k + 1) := by
          show p + 1 = ((k + 1 : Nat) : Int)
          push_cast
          omega
        simp only [tI, lI] at *
        simp [-lenF_lst, -lenF_tup, -List.map_reverse]
        rw [compL_mapP (f := D.int) (h := D.int) (p := fun i => decide (x ≤ fv xs i)) (xs := s1.reverse)]
        rotate_left
        · intro i hi
          have ri := hr1 i (by simpa using hi)
          have gi := fv_get ri.1 ri.2
          refine ⟨_, rfl, ?_, fun _ => rfl⟩
          simp [gi]
        · simp
          omega
        generalize hll2 : List.map D.int (s1.reverse.filter fun i => decide (x ≤ fv xs i)) = l2 at *
        simp [q2, q3, q4, addp, -lenF_lst, -lenF_tup, -List.map_reverse]
        rw [rngF_int 0 m _ (by omega), Res.bind_ok, e2]
        simp only [ED.s, ED.v] at *
        rw [lstack]
        clear lstack addp hsplit hD1 hD2 hJ3 hH bs e2 q3 q4 hll2 hs1 jl jl' hdn hr hsl sp hel hdn1 pd pl hps
        generalize d2 ++ [ED.pb x] = d3 at *
        have hE : eD d3 = .tup [.tup ((d3.foldl es e0s).f.map .int), .tup ((d3.foldl es e0s).b.map .int)] := rfl
        have fin : ∀ z : Option D, EnI xs w (enI (p + 1) r') [some (tI xs), some (.int w), none, none, none, some (eD d3), some (.ref 0), some (lI (st (fv xs) w (k + 1))), some (tD [] []), some (.int p), some (.int x), some (.int m), z, none] [.lst (d3.map oE)] := fun z => ⟨k + 1, p + 1, d3, some (.int p), some (.int x), some (.int m), z, hpk, by omega, by rw [hdr2], hD3, hbn, rfl, rfl⟩
        rw [hE] at c3
        simp only [hE] at fin
        rw [List.map_reverse] at con
        have hmm : (st (fv xs) w (k + 1)).reverse.map (fun i => D.int (fv xs i)) = ((st (fv xs) w (k + 1)).reverse.map (fv xs)).map D.int := by rw [List.map_map] <;> rfl
        have hlst : (st (fv xs) w (k + 1)).reverse.length ≤ 1000 := by simp; omega
        generalize (d3.foldl es e0s).f.map D.int = F3 at *
        generalize (d3.foldl es e0s).b.map D.int = B3 at *
        generalize d3.map oE = M3 at *
        generalize d2.map oE = M2 at *
        simp only [tI, lI] at fin
        generalize ((st (fv xs) w (k + 1)).reverse.map (fv xs)).map D.int = l9 at *
        simp [c3, m3, con, -List.map_reverse]
        rw [compL_mapF (f := D.int) (h := fun i => D.int (fv xs i)) (xs := (st (fv xs) w (k + 1)).reverse)]
        rotate_left
        · intro i hi
          have ri := hrs i (by simpa using hi)
          have gi := fv_get ri.1 ri.2
          refine ⟨_, rfl, rfl, ?_⟩
          simp [gi]
        · simp only [List.length_nil]
          omega
        rw [hmm]
        simp [nl, -List.map_reverse]
        exact fin _
  · obtain ⟨ρ, rfl, k, p, da, x9, x10, x11, x12, hp0, hk, hys, hD, hda, rfl, rfl⟩ := hf
    have hkk := drop_nil_k hk hys
    subst hkk
    have hn : 1 ≤ xs.length := by omega
    have hsl := st_len (fv xs) w xs.length
    have hdal : da.length ≤ 120 := by unfold sz at hda; omega
    have jl := J_len hD.j
    have jl' : ((st (fv xs) w xs.length).reverse.map (fv xs)).length = (st (fv xs) w xs.length).length := by simp
    have fc := fold_c da e0s
    have gap := hD.j.gap
    have e00 : e0s.c.length = 0 := rfl
    have c1 : ∀ M, callR (Ph (n + 4)) "ends_run" 0 [tD [] [], .tup (da.map oE)] M = .ok (tI (da.foldl es e0s).c) M := fun M => callR0 (a_erun n hD.val (by omega)) (by
      have : D.cls 0 (da.map oE) = true := cls_of fun x hx => by
        obtain ⟨c, _, rfl⟩ := List.mem_map.mp hx
        cases c <;> rfl
      show (true && ((D.cls 0 (da.map oE)) && true)) = true
      rw [this] <;> rfl) (tI_cl 0 _)
    have c8 : ∀ M, callR (Ph (n + 4)) "window_cost" 0 [tI xs, .int w] M = _ := fun M => callR0 (a_window_cost (n + 1) hw1 (by omega) hl hn) (cls2 (tI_cl 0 xs) rfl) rfl
    rw [← hda] at c8
    obtain ⟨N, hN⟩ : ∃ N : Int, N = (da.length : Int) := ⟨_, rfl⟩
    rw [← hN] at c8 hda
    have lc := lenF_tI (xs := (da.foldl es e0s).c) (L := N) (by rw [fc, e00, hN]; simp)
    have s1 : ∀ M, callR (Ph (n + 4)) "_law_same" 0 [tI (da.foldl es e0s).c, tI (da.foldl es e0s).c] M = _ := fun M => call_same rfl (tIm_plB _ _ (by omega)) M
    obtain ⟨F, hF⟩ : ∃ F : Int, F = ((da.foldl es e0s).f.length : Int) := ⟨_, rfl⟩
    obtain ⟨B, hB⟩ : ∃ B : Int, B = ((da.foldl es e0s).b.length : Int) := ⟨_, rfl⟩
    have lF := lenF_tI hF
    have lB := lenF_tI hB
    obtain ⟨g, hg⟩ : ∃ g : Int, g = ((F - B).natAbs : Int) := ⟨_, rfl⟩
    have eg : (if F - B < 0 then -(F - B) else F - B) = g := by
      split <;> omega
    have eg' : (if F < B then B - F else F - B) = g := by
      split <;> omega
    have c9 : ∀ M, callR (Ph (n + 4)) "ends_potential" 0 [eD da] M = _ := fun M => callR0 (a_epot (n + 2) (f := (da.foldl es e0s).f) (b := (da.foldl es e0s).b) (g := g) (by rw [hg, hF, hB]) (by omega) (by omega)) (cls1 (tD_cl 0 _ _)) rfl
    have hlt := lowtwo (g := g) (by omega)
    have hba : bop .band (.int g) (.int 1) = some (.int (g % 2)) := by
      show some (D.int (Builtin.bitAnd g 1)) = _
      rw [PyProof.Rows.bitAnd_m1]
    have gap' : 2 * (da.foldl es e0s).c.sum + g ≤ 3 * N := by
      rw [fc, e00] at gap
      unfold gp at gap
      rw [← hF, ← hB, ← hg] at gap
      rw [hN]
      simpa using gap
    have fd : bop .fdv (.int g) (.int 2) = some (.int (g / 2)) := bop_fdvS (by decide) (by decide)
    have s2 : ∀ (z1 z2 : Int) M, callR (Ph (n + 4)) "_law_same" 0 [.tup [.int z1, .int z2], .tup [.int z1, .int z2]] M = _ := fun z1 z2 M => call_same rfl (pl_t (k := n + 2) (by simp) (pls_c (int_pl _ _) (pls_c (int_pl _ _) rfl))) M
    have gs : g ≤ 1000 := by omega
    have hcl : (da.foldl es e0s).c.length ≤ 200 := by rw [fc, e00]; omega
    have hsum : 0 ≤ (da.foldl es e0s).c.sum ∧ (da.foldl es e0s).c.sum ≤ 3 * N := by
      have : ∀ (ds : List ED) (s : ES), (∀ z ∈ s.c, 0 ≤ z) → ∀ z ∈ (ds.foldl es s).c, 0 ≤ z := by
        intro ds
        induction ds with
        | nil => intro s h; exact h
        | cons e ds ih =>
          intro s h
          refine ih _ fun z hz => ?_
          rw [es_c] at hz
          rcases List.mem_append.mp hz with hz | hz
          · exact h z hz
          · rw [List.mem_singleton.mp hz]
            cases e <;> simp only [costE] <;> omega
      have nn := this da e0s (fun z hz => by cases hz)
      have sum0 : ∀ l : List Int, (∀ z ∈ l, 0 ≤ z) → 0 ≤ l.sum := by
        intro l
        induction l with
        | nil => intro _; exact Int.le_refl _
        | cons a l ih =>
          intro h
          have := h a (List.mem_cons_self ..)
          have := ih fun z hz => h z (List.mem_cons_of_mem _ hz)
          rw [List.sum_cons]
          omega
      have := sum0 _ nn
      omega
    have mu1 : bop .mul (.int 2) (.int (da.foldl es e0s).c.sum) = some (.int (2 * (da.foldl es e0s).c.sum)) := bop_mulS (by decide) (by omega)
    have mu2 : bop .mul (.int 3) (.int N) = some (.int (3 * N)) := bop_mulS (by decide) (by omega)
    have hE : eD da = .tup [.tup ((da.foldl es e0s).f.map .int), .tup ((da.foldl es e0s).b.map .int)] := rfl
    rw [hlt] at c9
    generalize (da.foldl es e0s).c = CC at *
    generalize (da.foldl es e0s).f.map D.int = F3 at *
    generalize (da.foldl es e0s).b.map D.int = B3 at *
    generalize da.map oE = M3 at *
    simp only [tI, tD, List.map_nil] at *
    have np : ¬ (3 * N < 2 * CC.sum + g) := by omega
    have sF : ∀ M, sumF (.tup (CC.map D.int)) M = .ok (.int CC.sum) M := fun M => sumF_tup CC M
    generalize CC.map D.int = C3 at *
    simp [c1, c8, lc, s1, lF, lB, -lenF_tup, -sumF_tup]
    simp only [eg, eg']
    by_cases hpar : g % 2 = 0
    · rw [if_pos hpar] at c9
      simp [hba, hpar, fd, c9, s2, sF, mu1, lc, mu2, gap', -lenF_tup, -sumF_tup]
    · rw [if_neg hpar] at c9
      simp [hba, hpar, fd, c9, s2, sF, mu1, lc, mu2, gap', -lenF_tup, -sumF_tup]

end Lk73

set_option Elab.async false
set_option linter.all false
set_option maxRecDepth 100000
set_option maxHeartbeats 8000000
namespace Lk73
open PySem CZ
theorem WP_compL {fe : Env' → Store → Res D} {fc : Env' → Store → Res Bool} {tg : Tg} {ρ : Env'} (I : Store → Prop) (P : D → Prop) : ∀ (xs acc : List D) (M : Store), I M → (∀ x ∈ acc, P x) → (∀ x ∈ xs, ∀ M, I M → ∃ ρ', setT tg x ρ = some ρ' ∧ fc ρ' M = .ok true M ∧ WP (fe ρ' M) fun y M2 => I M2 ∧ P y) → acc.length + xs.length ≤ 1000000 →
    WP (compL fe fc tg ρ xs acc M) fun ys M' => I M' ∧ (∀ y ∈ ys, P y) ∧ ys.length = acc.length + xs.length
  | [], acc, M, h, ha, _, _ => by
    show WP (.ok acc M) _
    simp
    exact ⟨h, ha⟩
  | x :: r, acc, M, h, ha, hh, hz => by
    obtain ⟨ρ', h1, h2, y, M2, h3, h4, h5⟩ := hh x (List.mem_cons_self ..) M h
    simp only [List.length_cons] at hz
    rw [compL, h1]
    show WP ((fc ρ' M).bind _) _
    rw [h2, Res.bind_ok, if_pos rfl, h3, Res.bind_ok, if_pos (by rw [PySem.sizeLine_eq]; omega)]
    refine WP.mono (WP_compL I P r (acc ++ [y]) M2 h4 (fun z hz => ?_) (fun z hz => hh z (List.mem_cons_of_mem _ hz)) (by simp; omega)) fun ys M' ⟨a, b, c⟩ => ⟨a, b, by rw [c]; simp; omega⟩
    rcases List.mem_append.mp hz with hz | hz
    · exact ha z hz
    · rw [List.mem_singleton.mp hz]; exact h5
/-! what repr tells of small data -/
def szI : Nat := 64
/-- an item that repr shows shortly -/
structure Sm (k : Nat) (d : D) : Prop where
  sh : d.sh k = true
  sw : d.py.showable = true
  len : d.py.shown.length ≤ 1000
theorem Sm.int (k : Nat) {i : Int} (h : i.natAbs < 10 ^ 60) : Sm k (.int i) := by
  refine ⟨by cases k <;> rfl, ?_, ?_⟩
  · have h2 : (10 : Nat) ^ 60 < 2 ^ 300 := by decide +kernel
    have := lg_nat (i := i) (k := 300) (Nat.lt_trans h h2)
    exact decide_eq_true (by omega)
  · have e : (PyData.int i).shown = Str.ofString (toString i) := by simp only [PyData.shown] <;> rfl
    show (PyData.int i).shown.length ≤ 1000
    rw [e, PySem.ofString_length]
    have := PySem.int_text_length_le10 (k := 60) (by decide) h
    omega
theorem Sm.non (k : Nat) : Sm k .non := ⟨by cases k <;> rfl, rfl, by show (PyData.none).shown.length ≤ 1000; decide +kernel⟩
theorem Sm.bl (k : Nat) (b : Bool) : Sm k (.bl b) := ⟨by cases k <;> rfl, rfl, by cases b <;> (show (PyData.bool _).shown.length ≤ 1000; decide +kernel)⟩
theorem Sm.one (k : Nat) : Sm k (.str "1") := ⟨by
  have e : PyData.canLay0 (.str "1") = true := by decide +kernel
  cases k <;> exact e, rfl, by show (PyData.str "1").shown.length ≤ 1000; decide +kernel⟩
theorem sm_shs {k : Nat} : ∀ {xs : List D}, (∀ x ∈ xs, Sm k x) → D.shs (k + 1) xs = true
  | [], _ => rfl
  | x :: r, h => by
    show (x.sh k && D.shs (k + 1) r) = true
    rw [(h x (List.mem_cons_self ..)).sh, sm_shs fun y hy => h y (List.mem_cons_of_mem _ hy)] <;> rfl
theorem sm_sw {k : Nat} : ∀ {xs : List D}, (∀ x ∈ xs, Sm k x) → PyData.showableAll (D.pys xs) = true
  | [], _ => by simp [D.pys, PyData.showableAll]
  | x :: r, h => by
    have a := (h x (List.mem_cons_self ..)).sw
    have b := sm_sw (xs := r) fun y hy => h y (List.mem_cons_of_mem _ hy)
    simp [D.pys, PyData.showableAll, a, b]
theorem sm_len {k : Nat} : ∀ {xs : List D}, (∀ x ∈ xs, Sm k x) → PySem.piled (PyData.shownAll (D.pys xs)) ≤ 1002 * xs.length
  | [], _ => by simp [D.pys, PyData.shownAll, PySem.piled]
  | x :: r, h => by
    have a := (h x (List.mem_cons_self ..)).len
    have b := sm_len (xs := r) fun y hy => h y (List.mem_cons_of_mem _ hy)
    simp only [D.pys, PyData.shownAll, PySem.piled_cons, List.length_cons]
    omega
theorem txt_list : ∀ (ts : List Str) (k : Nat) (acc : Str), (PySem.textFrom k acc ts).length ≤ acc.length + PySem.piled ts
  | [], k, acc => by
    show acc.length ≤ _
    exact Nat.le_add_right _ _
  | t :: r, k, acc => by
    have ih := txt_list r (k + 1) (acc ++ (if k > 0 then ", " else "" : String) ++ t)
    have e : (acc ++ (if k > 0 then ", " else "" : String) ++ t : Str).length ≤ acc.length + 2 + t.length := by
      rw [PySem.strLen_append, PySem.strLen_append]
      have : (((if k > 0 then ", " else "" : String)) : Str).length ≤ 2 := by split <;> decide +kernel
      omega
    rw [PySem.piled_cons]
    show (PySem.textFrom (k + 1) (acc ++ (if k > 0 then ", " else "" : String) ++ t) r).length ≤ _
    omega
theorem rep_tup {xs : List D} (h : ∀ x ∈ xs, Sm 59 x) (hl : xs.length ≤ 300) : ∃ t, rprD (.tup xs) = some t := by
  have e : rprD (.tup xs) = if (D.tup xs).sh 60 && (D.tup xs).py.showable && decide ((D.tup xs).py.shown.length ≤ sizeLine) then some (D.tup xs).py.shown else none := rfl
  have h1 : (D.tup xs).sh 60 = true := sm_shs h
  have h2 : (D.tup xs).py.showable = true := by show (PyData.tuple _).showable = true; simp only [PyData.showable]; exact sm_sw h
  have h3 : (D.tup xs).py.shown.length ≤ sizeLine := by
    have l := sm_len h
    have f := PySem.fmt_text (PyData.shownAll (D.pys xs))
    have e2 : (D.tup xs).py.shown = PySem.tupleText (PyData.shownAll (D.pys xs)) := by show (PyData.tuple _).shown = _; simp only [PyData.shown]
    rw [e2, PySem.sizeLine_eq]
    omega
  rw [e, h1, h2, decide_eq_true h3]
  exact ⟨_, rfl⟩
theorem rep_lst {xs : List D} (h : ∀ x ∈ xs, Sm 59 x) (hl : xs.length ≤ 300) : ∃ t, rprD (.lst xs) = some t := by
  have e : rprD (.lst xs) = if (D.lst xs).sh 60 && (D.lst xs).py.showable && decide ((D.lst xs).py.shown.length ≤ sizeLine) then some (D.lst xs).py.shown else none := rfl
  have h1 : (D.lst xs).sh 60 = true := sm_shs h
  have h2 : (D.lst xs).py.showable = true := by show (PyData.list _).showable = true; simp only [PyData.showable]; exact sm_sw h
  have h3 : (D.lst xs).py.shown.length ≤ sizeLine := by
    have l := sm_len h
    have e2 : (D.lst xs).py.shown = PySem.listText (PyData.shownAll (D.pys xs)) := by show (PyData.list _).shown = _; simp only [PyData.shown]
    have f := txt_list (PyData.shownAll (D.pys xs)) 0 "["
    have b1 : ((("[" : String) : Str)).length = 1 := rfl
    have b2 : ((("]" : String) : Str)).length = 1 := rfl
    rw [e2, PySem.sizeLine_eq, PySem.listText, PySem.strLen_append]
    omega
  rw [e, h1, h2, decide_eq_true h3]
  exact ⟨_, rfl⟩
theorem rep_sm {d : D} (h : Sm 60 d) (hd : d ≠ .emp) : ∃ t, rprD d = some t := by
  have h3 : d.py.shown.length ≤ sizeLine := by have := h.len; rw [PySem.sizeLine_eq]; omega
  have e : rprD d = if d.sh 60 && d.py.showable && decide (d.py.shown.length ≤ sizeLine) then some d.py.shown else none := by
    cases d <;> first | rfl | exact absurd rfl hd
  rw [e, h.sh, h.sw, decide_eq_true h3]
  exact ⟨_, rfl⟩
theorem Sm.tup {k : Nat} {xs : List D} (h : ∀ x ∈ xs, Sm k x) (hs : ∀ x ∈ xs, x.py.shown.length ≤ 18) (hl : xs.length ≤ 49) : Sm (k + 1) (.tup xs) := by
  refine ⟨sm_shs h, ?_, ?_⟩
  · show (PyData.tuple _).showable = true
    simp only [PyData.showable]
    exact sm_sw h
  · have key : ∀ ys : List D, (∀ x ∈ ys, x.py.shown.length ≤ 18) → PySem.piled (PyData.shownAll (D.pys ys)) ≤ 20 * ys.length := by
      intro ys
      induction ys with
      | nil => intro _; simp [D.pys, PyData.shownAll, PySem.piled]
      | cons y r ih =>
        intro hy
        have a := hy y (List.mem_cons_self ..)
        have b := ih fun z hz => hy z (List.mem_cons_of_mem _ hz)
        simp only [D.pys, PyData.shownAll, PySem.piled_cons, List.length_cons]
        omega
    have l := key xs hs
    have f := PySem.fmt_text (PyData.shownAll (D.pys xs))
    have e2 : (D.tup xs).py.shown = PySem.tupleText (PyData.shownAll (D.pys xs)) := by show (PyData.tuple _).shown = _; simp only [PyData.shown]
    rw [e2]
    omega

theorem blt_sort (ns : List Int) (M : Store) : blt .sorted false [.lst (ns.map .int)] M = .ok (.lst (ns.mergeSort.map .int)) M := by
  show (match intsD (ns.map D.int) with
      | some ns => mkL false ((ns.mergeSort).map .int) M
      | none => .no) = _
  rw [intsD_map] <;> rfl
def Rw (xs : List Int) : Prop := 1 ≤ xs.length ∧ xs.length ≤ 60 ∧ ∀ x ∈ xs, 0 ≤ x ∧ x < 1000
theorem Rw.sort {xs : List Int} (h : Rw xs) : Rw xs.mergeSort := by
  refine ⟨by rw [List.length_mergeSort]; exact h.1, by rw [List.length_mergeSort]; exact h.2.1, fun x hx => h.2.2 x ?_⟩
  exact List.mem_mergeSort.mp hx
theorem Rw.rev {xs : List Int} (h : Rw xs) : Rw xs.reverse := ⟨by simpa using h.1, by simpa using h.2.1, fun x hx => h.2.2 x (by simpa using hx)⟩
theorem wp_row {n : Nat} {B : Bag} (hB : B.ok) {Q : D → Store → Prop} (q : ∀ (xs : List Int) (B : Bag), B.ok → Rw xs → Q (tI xs) [B.s0, B.s1]) : WP (callR (Ph (n + 3)) "_law_row" 2 [.ref 1] [B.s0, B.s1]) Q := by
  refine WP_fn2 lk_law_row rfl rfl ?_
  simp [c_law_row]
  repeat refine WP_bind ?_
  refine wp_draw lk_law_draw (R := []) hB (by decide) (by decide) fun v0 B hB h00 h01 => ?_
  simp
  repeat refine WP_bind ?_
  refine wp_pick lk_law_draw lk_law_pick (R := []) hB (by simp) (by simp) rfl fun m B hB hm => ?_
  obtain ⟨many, rfl, hm0, hm1⟩ : ∃ many : Int, m = .int many ∧ 1 ≤ many ∧ many ≤ 60 := by
    simp at hm
    rcases hm with rfl | rfl | rfl | rfl | rfl <;> exact ⟨_, rfl, by omega, by omega⟩
  try simp
  repeat refine WP_bind ?_
  refine wp_draw lk_law_draw (R := []) hB (by decide) (by decide) fun way B hB hw0 hw1 => ?_
  simp
  repeat refine WP_bind ?_
  refine wp_pick lk_law_draw lk_law_pick (R := []) hB (by simp) (by simp) rfl fun f B hB hf => ?_
  obtain ⟨few, rfl, hf0, hf1⟩ : ∃ few : Int, f = .int few ∧ 1 ≤ few ∧ few ≤ 1000 := by
    simp at hf
    rcases hf with rfl | rfl | rfl <;> exact ⟨_, rfl, by omega, by omega⟩
  simp
  rw [rngF_int 0 many _ (by omega), Res.bind_ok]
  repeat refine WP_bind ?_
  refine WP.mono (WP_compL (fun M => ∃ B : Bag, B.ok ∧ M = [B.s0, B.s1]) (fun y => ∃ i, y = .int i ∧ 0 ≤ i ∧ i < 1000) _ [] _ ⟨B, hB, rfl⟩ (fun x hx => nomatch hx) (fun x hx M hM => ?_) (by rw [rngL_len]; simp; omega)) fun ys M' hys => ?_
  · obtain ⟨B, hB, rfl⟩ := hM
    refine ⟨_, setT_nm, by simp, ?_⟩
    simp
    refine wp_draw lk_law_draw (R := []) hB (by omega) (by omega) fun v1 B hB h10 h11 => ?_
    exact ⟨⟨B, hB, rfl⟩, _, rfl, by omega, by omega⟩
  · obtain ⟨⟨B, hB, rfl⟩, hP, hlen⟩ := hys
    obtain ⟨ns, rfl, hd⟩ : ∃ ns : List Int, ys = ns.map .int ∧ ∀ i ∈ ns, 0 ≤ i ∧ i < 1000 := by
      clear hlen
      induction ys with
      | nil => exact ⟨[], rfl, fun i hi => nomatch hi⟩
      | cons y ys ih =>
        obtain ⟨i, rfl, h⟩ := hP y (List.mem_cons_self ..)
        obtain ⟨ns, rfl, h2⟩ := ih fun z hz => hP z (List.mem_cons_of_mem _ hz)
        refine ⟨i :: ns, rfl, fun j hj => ?_⟩
        rcases List.mem_cons.mp hj with rfl | hj
        · exact h
        · exact h2 j hj
    have R : Rw ns := by
      rw [List.length_map, rngL_len] at hlen
      simp at hlen
      exact ⟨by omega, by omega, hd⟩
    have fin : ∀ xs : List Int, Rw xs → ∃ (B' : Bag) (X : Store), [B.s0, B.s1] = B'.s0 :: B'.s1 :: X ∧ (tI xs).cl 2 = true ∧ Q (tI xs) [B'.s0, B'.s1] := fun xs hx => ⟨B, [], rfl, tI_cl 2 xs, q xs B hB hx⟩
    have bs := blt_sort ns
    have f0 := fin ns R
    have f1 := fin _ R.sort
    have f2 := fin _ R.sort.rev
    simp only [tI, List.map_reverse] at f0 f1 f2
    generalize ns.map D.int = l0 at *
    generalize ns.mergeSort.map D.int = l1 at *
    by_cases w0 : way = 0
    · simp [w0, bs]
      simpa using f1
    · by_cases w1 : way = 1
      · simp [w0, w1, bs]
        simpa using f2
      · simp [w0, w1]
        simpa using f0
def fuel : Nat := 20
theorem plain (ns : List Int) (_ : ns.length ≤ 63) : ∃ M', CZ.run (prgOf T) fuel "law" [.scr ns] [] = .ok (.bl true) M' := by
  have h : WP (CZ.run (prgOf T) (19 + 1) "law" [.scr ns] []) fun d _ => d = .bl true := by
    rw [run_some lk_law rfl]
    refine WP_bind ?_
    simp only [c_law, ex_seq, ex_set, ev_call, evs_cons, evs_nil, ev_var, List.map_cons, List.map_nil, List.cons_append, List.nil_append, List.length_cons, List.length_nil, Nat.zero_add, Nat.reduceSub, List.replicate, List.getElem?_cons_zero, slotF_some, Res.bind_ok]
    repeat refine WP_bind ?_
    refine wp_own (z := 73) lk_law_own_bag (by decide) fun B hB => ?_
    simp
    refine WP_bind (WP.mono (Q := fun f M => ∃ ρ, f = .nx ρ ∧ ∃ (B : Bag) (x2 x3 x4 x5 x6 : Option D), B.ok ∧ M = [B.s0, B.s1] ∧ ρ = [some (.scr ns), some (.ref 1), x2, x3, x4, x5, x6]) (WP_for (fun ys ρ M => ∃ (B : Bag) (x2 x3 x4 x5 x6 : Option D), B.ok ∧ M = [B.s0, B.s1] ∧ ρ = [some (.scr ns), some (.ref 1), x2, x3, x4, x5, x6]) ⟨B, none, none, none, none, none, hB, rfl, rfl⟩ (fun x r ρ M hI => ?_) (fun ρ M hI => ⟨ρ, rfl, hI⟩)) (fun f M hf => ?_))
    · obtain ⟨B, x2, x3, x4, x5, x6, hB, rfl, rfl⟩ := hI
      refine ⟨_, setT_nm, ?_⟩
      simp [b_law_2]
      repeat refine WP_bind ?_
      refine wp_row (n := 16) hB fun xs B hB hR => ?_
      obtain ⟨r1, r2, r3⟩ := hR
      obtain ⟨t, ht⟩ := rep_tup (xs := xs.map .int) (fun x hx => by
        obtain ⟨i, hi, rfl⟩ := List.mem_map.mp hx
        have := r3 i hi
        exact Sm.int 59 (by omega)) (by simp; omega)
      obtain ⟨L, hL⟩ : ∃ L : Int, L = xs.length := ⟨_, rfl⟩
      have hlen := lenF_tI hL
      have c4 : ∀ M, callR (Ph 19) "_law_are_takings_right" 0 [tI xs] M = _ := fun M => callR0 (a_takings 14 r1 r2) (cls1 (tI_cl 0 xs)) rfl
      simp only [tI] at *
      simp [ht, hlen, -lenF_tup]
      repeat refine WP_bind ?_
      refine wp_draw lk_law_draw (R := []) hB (b := L) (by omega) (by omega) fun v1 B hB h10 h11 => ?_
      simp
      repeat refine WP_bind ?_
      refine wp_pick lk_law_draw lk_law_pick (R := []) hB (by simp) (by simp) rfl fun wd B hB hwd => ?_
      obtain ⟨w1, rfl, hw1⟩ : ∃ w : Int, wd = .int w ∧ 1 ≤ w := by
        simp at hwd
        rcases hwd with rfl | rfl | rfl | rfl <;> exact ⟨_, rfl, by omega⟩
      try simp
      repeat refine WP_bind ?_
      refine wp_draw lk_law_draw (R := []) hB (b := L) (by omega) (by omega) fun v2 B hB h20 h21 => ?_
      simp
      have hbody : ∀ (w : Int), 1 ≤ w → ex (CZ.run (prgOf T) 19) b_law_1 [some (.scr ns), some (.ref 1), some x, some (.tup (xs.map .int)), some (.int w), some (.str t), some (.int L)] [B.s0, B.s1] = .ok (.nx [some (.scr ns), some (.ref 1), some x, some (.tup (xs.map .int)), some (.int (if L < w then L else w)), some (.str t), some (.int L)]) [B.s0, B.s1] := fun w hw => by
        obtain ⟨w', hw', hw2, hw3⟩ : ∃ w' : Int, (if L < w then L else w) = w' ∧ 1 ≤ w' ∧ w' ≤ xs.length := by
          refine ⟨_, rfl, ?_, ?_⟩ <;> split <;> omega
        have c1 : ∀ M, callR (Ph 19) "_law_is_stack_right" 0 [tI xs, .int w'] M = _ := fun M => callR0 (a_stack_right 14 hw2 hw3 r2) (cls2 (tI_cl 0 xs) rfl) rfl
        have c2 : ∀ M, callR (Ph 19) "_law_is_queue_right" 0 [tI xs, .int w'] M = _ := fun M => callR0 (a_queue_right 14 hw2 hw3 r2) (cls2 (tI_cl 0 xs) rfl) rfl
        have c3 : ∀ M, callR (Ph 19) "_law_are_ends_right" 0 [tI xs, .int w'] M = _ := fun M => callR0 (a_ends_right 14 hw2 hw3 r2) (cls2 (tI_cl 0 xs) rfl) rfl
        simp only [tI] at *
        simp [b_law_1, hw', c1, c2, c3]
      have e1 := hbody w1 hw1
      have e2 := hbody (1 + v2) (by omega)
      have hfor : forL (ex (CZ.run (prgOf T) 19) b_law_1) (.nm 4) [D.int w1, D.int (1 + v2)] [some (.scr ns), some (.ref 1), some x, some (.tup (xs.map .int)), x4, some (.str t), some (.int L)] [B.s0, B.s1] = .ok (.nx [some (.scr ns), some (.ref 1), some x, some (.tup (xs.map .int)), some (.int (if L < 1 + v2 then L else 1 + v2)), some (.str t), some (.int L)]) [B.s0, B.s1] := by
        rw [forL, setT_nm]
        show (ex (CZ.run (prgOf T) 19) b_law_1 [some (.scr ns), some (.ref 1), some x, some (.tup (xs.map .int)), some (.int w1), some (.str t), some (.int L)] [B.s0, B.s1]).bind _ = _
        rw [e1, Res.bind_ok]
        show forL (ex (CZ.run (prgOf T) 19) b_law_1) (.nm 4) [D.int (1 + v2)] [some (.scr ns), some (.ref 1), some x, some (.tup (xs.map .int)), some (.int (if L < w1 then L else w1)), some (.str t), some (.int L)] [B.s0, B.s1] = _
        rw [forL, setT_nm]
        show (ex (CZ.run (prgOf T) 19) b_law_1 [some (.scr ns), some (.ref 1), some x, some (.tup (xs.map .int)), some (.int (1 + v2)), some (.str t), some (.int L)] [B.s0, B.s1]).bind _ = _
        rw [e2, Res.bind_ok] <;> rfl
      refine WP_of_eq hfor ?_
      simp [ht, c4, cop_nestr]
      exact ⟨B, hB, rfl, rfl⟩
    · obtain ⟨ρ, rfl, B, x2, x3, x4, x5, x6, hB, rfl, rfl⟩ := hf
      have c1 : ∀ M, callR (Ph 19) "window_least" 0 [.tup [.int 3, .int 1, .int 4, .int 1, .int 5, .int 9, .int 2, .int 6], .int 3] M = .ok (.tup [.int 1, .int 1, .int 1, .int 1, .int 2, .int 2]) M := fun M => by
        have := callR0 (M := M) (a_window_least 16 (xs := [3, 1, 4, 1, 5, 9, 2, 6]) (w := 3) (by decide) (by decide) (by decide)) rfl (tI_cl 0 _)
        have e : wls (fv [3, 1, 4, 1, 5, 9, 2, 6]) 3 ([3, 1, 4, 1, 5, 9, 2, 6] : List Int).length = [1, 1, 1, 1, 2, 2] := by decide +kernel
        rw [e] at this
        exact this
      have c2 : ∀ M, callR (Ph 19) "window_cost" 0 [.tup [.int 3, .int 1, .int 4, .int 1, .int 5, .int 9, .int 2, .int 6], .int 3] M = .ok (.int 14) M := fun M => by
        have := callR0 (M := M) (a_window_cost 16 (xs := [3, 1, 4, 1, 5, 9, 2, 6]) (w := 3) (by decide) (by decide) (by decide) (by decide)) rfl rfl
        have e : 2 * (([3, 1, 4, 1, 5, 9, 2, 6] : List Int).length : Int) - sz (fv [3, 1, 4, 1, 5, 9, 2, 6]) 3 ([3, 1, 4, 1, 5, 9, 2, 6] : List Int).length = 14 := by decide +kernel
        rw [e] at this
        exact this
      have s1 : ∀ M, callR (Ph 19) "_law_same" 0 [.tup [.tup [.int 1, .int 1, .int 1, .int 1, .int 2, .int 2], .int 14], .tup [.tup [.int 1, .int 1, .int 1, .int 1, .int 2, .int 2], .int 14]] M = .ok (.bl true) M := fun M => call_same rfl (by decide +kernel) M
      simp [c1, c2, s1]
  obtain ⟨d, M', e, rfl⟩ := h
  exact ⟨M', e⟩
end Lk73
open PySem PySem.W PySem.Calls PyProof.Rows
theorem PySem.Challenge.cw_costsahead_k73_whole_windows_beside_queu_holds : PySem.Challenge.rw_costsahead_k73_whole_windows_beside_queu.Holds := by
  w_on; o_law
  refine HandSHeadRun.head_any (r := OpenLaw.row PySem.Challenge.rw_costsahead_k73_whole_windows_beside_queu) (q := view (OpenLaw.row PySem.Challenge.rw_costsahead_k73_whole_windows_beside_queu).prog [44]) (H := Lk73.hk) (ob := Lk73.ob) (M := 2000) (loose := Lk73.loose) (d := HandSHeadRun.topDef (OpenLaw.row PySem.Challenge.rw_costsahead_k73_whole_windows_beside_queu).prog 44) (kwd := []) Lk73.ob_eq
    (by kernel_rfl) (fun s => by kernel_rfl) Lk73.hrun (by kernel_rfl) (by kernel_rfl) (by kernel_rfl) (by rfl) (by first | assumption | decide +kernel) (by decide +kernel) ⟨rfl, rfl, rfl, rfl, rfl, by decide +kernel⟩ ?hw ?hc
  case hw => w_witness2
  case hc =>
    refine CZ.walk_cz (l := PySem.Challenge.rw_costsahead_k73_whole_windows_beside_queu) (n := 63) (k := Lk73.fuel) (x := "script") rfl (by decide) (by kernel_rfl) ⟨rfl, by decide, by decide⟩ ?F
    intro w mg fa h Y N hmg0
    obtain ⟨K, KX, c⟩ := Y
    have hmg : mg ("law" : PySem.Str) = some (.ref fa) := by
      have e : (HandSHeadRun.topDef (OpenLaw.row PySem.Challenge.rw_costsahead_k73_whole_windows_beside_queu).prog 44).name = ("law" : PySem.Str) := by kernel_rfl
      rw [← e]
      exact hmg0
    exact CZ.law_end KX N hmg c rfl Lk73.hnd Lk73.hc Lk73.hw Lk73.hl Lk73.plain
